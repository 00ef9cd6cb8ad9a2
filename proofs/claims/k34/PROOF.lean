import PyProof.Rows.All
import Wide.All
import OpenK.AllK
import Wide.FinOn
import HandS.ForMost
import HandS.Wide
import HandS.WideBits
import HandS.Gcd
import HandS.IsInst
import HandS.Zip
import HandS.SortInts
import HandS.Defaults
import KE.DataEq
import PyProof.Rows.RuleB_bool
import HandS.TupAny
import HandS.TupMul
import KE.KMathG
import HandS.Conv
import PyProof.LongRange
import PyProof.ListRange
import HandS.Style
import KE.GoesEnum
import KE.GoesMore
import KE.KMathGC
import HandS.RaiseMore
import HandS.HeadHook4
import KE.KStateDown
import Lean
import HandS.Head0
import HandS.Head1
import HandS.Head2
import HandS.HeadEnd
import HandS.Head3
import PySem.Challenge.RW_soundlooks_k34_whole_settled_stretches_a
set_option Elab.async false
set_option linter.all false
set_option maxRecDepth 100000
set_option maxHeartbeats 0
namespace Ev
open PySem PySem.Spec PyProof.Rows L2
/-! ## data, slots -/
abbrev D := PyData
inductive Sl where
  | no | val (d : D) | own (ds : List D) | par (ds : List D)
inductive R where
  | val (d : D) | fresh (ds : List D)
inductive AV where
  | val (d : D) | own (ds : List D)
abbrev En := List Sl
section
variable (K : PySem.W.Frag)
inductive SlOk (F Z H : Hp) (pa : Nat → Option Addr) (i : Nat) : Option V → Sl → Prop where
  | no (o : Option V) : SlOk F Z H pa i o .no
  | val {v : V} {d : D} : Dp K Z v d → SlOk F Z H pa i (some v) (.val d)
  | own {a : Addr} {us : List V} {ds : List D} : H a = some (.lst us) → F a = none → Z a = none → DpAll K Z us ds → SlOk F Z H pa i (some (.ref a)) (.own ds)
  | par {a : Addr} {us : List V} {ds : List D} : pa i = some a → H a = some (.lst us) → F a = none → Z a = none → DpAll K Z us ds → SlOk F Z H pa i (some (.ref a)) (.par ds)
end
def ownA : Option V → Sl → Option Addr
  | some (.ref a), .own _ => some a
  | some (.ref a), .par _ => some a
  | _, _ => none
theorem ownA_iff {o : Option V} {s : Sl} {a : Addr} : ownA o s = some a ↔ o = some (.ref a) ∧ ((∃ ds, s = .own ds) ∨ ∃ ds, s = .par ds) := by
  constructor
  · intro h
    cases o with
    | none => cases s <;> cases h
    | some v =>
      cases v <;> cases s <;> (try (cases h; done))
      · cases h; exact ⟨rfl, .inl ⟨_, rfl⟩⟩
      · cases h; exact ⟨rfl, .inr ⟨_, rfl⟩⟩
  · rintro ⟨rfl, ⟨ds, rfl⟩ | ⟨ds, rfl⟩⟩ <;> rfl
mutual
theorem Dp.mono {K : PySem.W.Frag} {Z Z' : Hp} (s : Same Z Z') : ∀ (d : D) (v : V), Dp K Z v d → Dp K Z' v d
  | .none, _, h => by cases h; exact .non
  | .bool b, _, h => by cases h; exact .bl b
  | .int i, _, h => by cases h; exact .int i
  | .str x, _, h => by cases h; exact .str x
  | .list ds, _, h => by
    cases h with
    | lst hs ha => exact .lst (s.seq hs) (DpAll.mono s ds _ ha)
  | .tuple ds, _, h => by
    cases h with
    | tup hs ha =>
      refine .tup ?_ (DpAll.mono s ds _ ha)
      rcases hs with (h | ⟨o, h⟩) | h
      · exact .inl (.inl (s _ _ h))
      · exact .inl (.inr ⟨o, s _ _ h⟩)
      · exact .inr h
  | .dict _, _, h => by cases h
theorem DpAll.mono {K : PySem.W.Frag} {Z Z' : Hp} (s : Same Z Z') : ∀ (ds : List D) (vs : List V), DpAll K Z vs ds → DpAll K Z' vs ds
  | [], _, h => by cases h; exact .nil
  | d :: ds, _, h => by
    cases h with
    | cons h1 h2 => exact .cons (Dp.mono s d _ h1) (DpAll.mono s ds _ h2)
end
theorem da_length {K : PySem.W.Frag} {Z : Hp} : ∀ {vs : List V} {ds : List D}, DpAll K Z vs ds → vs.length = ds.length
  | _, _, .nil => rfl
  | _, _, .cons _ h => congrArg Nat.succ (da_length h)
theorem da_get {K : PySem.W.Frag} {Z : Hp} : ∀ {vs : List V} {ds : List D} {i : Nat} {d : D}, DpAll K Z vs ds → ds[i]? = some d → ∃ v, vs[i]? = some v ∧ Dp K Z v d
  | _, _, _, _, .nil, e => by simp at e
  | _, _, 0, d, .cons h _, e => by simp at e; subst e; exact ⟨_, rfl, h⟩
  | _, _, i + 1, d, .cons _ t, e => by
    obtain ⟨v, h1, h2⟩ := da_get (i := i) (d := d) t (by simpa using e)
    exact ⟨v, by simpa using h1, h2⟩
theorem da_getV {K : PySem.W.Frag} {Z : Hp} {vs : List V} {ds : List D} {i : Nat} {v : V} (h : DpAll K Z vs ds) (e : vs[i]? = some v) : ∃ d, ds[i]? = some d ∧ Dp K Z v d := by
  have hl := da_length h
  have hi : i < vs.length := (List.getElem?_eq_some_iff.mp e).1
  obtain ⟨w, h1, h2⟩ := da_get (i := i) (d := ds[i]'(by omega)) h (by simp [show i < ds.length by omega])
  rw [e] at h1; cases h1
  exact ⟨_, by simp [show i < ds.length by omega], h2⟩
theorem da_append {K : PySem.W.Frag} {Z : Hp} : ∀ {vs ws : List V} {ds es : List D}, DpAll K Z vs ds → DpAll K Z ws es → DpAll K Z (vs ++ ws) (ds ++ es)
  | _, _, _, _, .nil, h => h
  | _, _, _, _, .cons a b, h => .cons a (da_append b h)
theorem da_take {K : PySem.W.Frag} {Z : Hp} : ∀ {vs : List V} {ds : List D} (n : Nat), DpAll K Z vs ds → DpAll K Z (vs.take n) (ds.take n)
  | _, _, 0, _ => .nil
  | _, _, _ + 1, .nil => .nil
  | _, _, n + 1, .cons a b => .cons a (da_take n b)
theorem da_drop {K : PySem.W.Frag} {Z : Hp} : ∀ {vs : List V} {ds : List D} (n : Nat), DpAll K Z vs ds → DpAll K Z (vs.drop n) (ds.drop n)
  | _, _, 0, h => h
  | _, _, _ + 1, .nil => .nil
  | _, _, n + 1, .cons _ b => da_drop n b
theorem da_set {K : PySem.W.Frag} {Z : Hp} {v : V} {d : D} (q : Dp K Z v d) : ∀ {vs : List V} {ds : List D} (i : Nat), DpAll K Z vs ds → DpAll K Z (vs.set i v) (ds.set i d)
  | _, _, _, .nil => .nil
  | _, _, 0, .cons _ b => .cons q b
  | _, _, i + 1, .cons a b => .cons a (da_set q i b)
theorem da_reverse {K : PySem.W.Frag} {Z : Hp} : ∀ {vs : List V} {ds : List D}, DpAll K Z vs ds → DpAll K Z vs.reverse ds.reverse
  | _, _, .nil => .nil
  | _, _, .cons a b => by
    rw [List.reverse_cons, List.reverse_cons]
    exact da_append (da_reverse b) (.cons a .nil)
/-! ## the state -/
/-- Z, the frozen part, grows; what stands in the frame F is not newly frozen -/
structure Gr (F Z Z' : Hp) : Prop where
  zz : Same Z Z'
  nf : ∀ b, F b ≠ none → Z' b = Z b
theorem Gr.refl (F Z : Hp) : Gr F Z Z := ⟨Same.refl _, fun _ _ => rfl⟩
theorem Gr.trans {F Z Z1 Z2 : Hp} (a : Gr F Z Z1) (b : Gr F Z1 Z2) : Gr F Z Z2 := ⟨a.zz.trans b.zz, fun c h => (b.nf c h).trans (a.nf c h)⟩
/-- new objects that are frozen at once -/
structure Alc (Z H Z' H' : Hp) : Prop where
  zz : Same Z Z'
  hh : Same H H'
  zh : Same Z' H'
  nw : ∀ b, H b ≠ none → Z' b = Z b
theorem Alc.refl {Z H : Hp} (h : Same Z H) : Alc Z H Z H := ⟨Same.refl _, Same.refl _, h, fun _ _ => rfl⟩
theorem Alc.trans {Z H Z1 H1 Z2 H2 : Hp} (a : Alc Z H Z1 H1) (b : Alc Z1 H1 Z2 H2) : Alc Z H Z2 H2 :=
  ⟨a.zz.trans b.zz, a.hh.trans b.hh, b.zh, fun c h => (b.nw c (by
    cases q : H c with
    | none => exact absurd q h
    | some o => rw [a.hh c o q]; exact fun z => nomatch z)).trans (a.nw c h)⟩
theorem upd_none {H : Hp} {p : Addr} {o : HO} (h : H p = none) : Same H (upd H p o) := fun b u e => by
  rw [upd_ne (ne_of_none e h)]; exact e
theorem Same.none {Z H : Hp} (s : Same Z H) {p : Addr} (h : H p = none) : Z p = none := s.free h
theorem Alc.new {Z H : Hp} {p : Addr} {o : HO} (zh : Same Z H) (h : H p = none) : Alc Z H (upd Z p o) (upd H p o) := by
  refine ⟨upd_none (zh.free h), upd_none h, fun b u e => ?_, fun b hb => ?_⟩
  · by_cases q : b = p
    · subst q; rw [upd_same] at e ⊢; exact e
    · rw [upd_ne q] at e ⊢; exact zh b u e
  · exact upd_ne (fun q => hb (by rw [q]; exact h))
structure Wst (K : PySem.W.Frag) (F Z H : Hp) (pa : Nat → Option Addr) (σ : L2.St) (env : En) : Prop where
  fh : Same F H
  zh : Same Z H
  len : σ.length = env.length
  sl : ∀ (i : Nat) (o : Option V) (s : Sl), σ[i]? = some o → env[i]? = some s → SlOk K F Z H pa i o s
  dj : ∀ (i j : Nat) (o o' : Option V) (s s' : Sl) (a : Addr), i ≠ j → σ[i]? = some o → env[i]? = some s → σ[j]? = some o' → env[j]? = some s' → ownA o s = some a → ownA o' s' = some a → False
section
variable {K : PySem.W.Frag} {F Z Z' H H' : Hp} {pa : Nat → Option Addr} {σ : L2.St} {env : En}
theorem SlOk.mono {i : Nat} {o : Option V} {s : Sl} (h : SlOk K F Z H pa i o s) (zz : Same Z Z') (hh : ∀ a u, ownA o s = some a → H a = some u → H' a = some u) (nw : ∀ a, ownA o s = some a → Z' a = Z a) : SlOk K F Z' H' pa i o s := by
  cases h with
  | no => exact .no _
  | val d => exact .val (Dp.mono zz _ _ d)
  | own a b c d => exact .own (hh _ _ rfl a) b ((nw _ rfl).trans c) (DpAll.mono zz _ _ d)
  | par p a b c d => exact .par p (hh _ _ rfl a) b ((nw _ rfl).trans c) (DpAll.mono zz _ _ d)
theorem SlOk.at_ {i : Nat} {o : Option V} {s : Sl} {a : Addr} (h : SlOk K F Z H pa i o s) (e : ownA o s = some a) : ∃ us, H a = some (.lst us) ∧ F a = none ∧ Z a = none := by
  cases h with
  | no => obtain ⟨_, ⟨_, q⟩ | ⟨_, q⟩⟩ := ownA_iff.mp e <;> cases q
  | val d => obtain ⟨_, ⟨_, q⟩ | ⟨_, q⟩⟩ := ownA_iff.mp e <;> cases q
  | own h1 h2 h3 h4 => obtain ⟨q, _⟩ := ownA_iff.mp e; cases q; exact ⟨_, h1, h2, h3⟩
  | par h0 h1 h2 h3 h4 => obtain ⟨q, _⟩ := ownA_iff.mp e; cases q; exact ⟨_, h1, h2, h3⟩
theorem Wst.alc (W : Wst K F Z H pa σ env) (a : Alc Z H Z' H') : Wst K F Z' H' pa σ env := by
  refine ⟨W.fh.trans a.hh, a.zh, W.len, fun i o s e1 e2 => ?_, W.dj⟩
  have q := W.sl i o s e1 e2
  refine q.mono a.zz (fun b u _ h => a.hh b u h) fun b hb => ?_
  obtain ⟨us, h1, _, _⟩ := q.at_ hb
  exact a.nw b (by rw [h1]; exact fun z => nomatch z)
theorem Alc.gr (a : Alc Z H Z' H') (f : Same F H) : Gr F Z Z' := ⟨a.zz, fun b hb => a.nw b fun z => hb (f.free z)⟩
/-- a smaller frame -/
theorem Wst.frame {F1 : Hp} (W : Wst K F1 Z H pa σ env) (f : Same F F1) : Wst K F Z H pa σ env := by
  refine ⟨f.trans W.fh, W.zh, W.len, fun i o s e1 e2 => ?_, W.dj⟩
  cases W.sl i o s e1 e2 with
  | no => exact .no _
  | val d => exact .val d
  | own a b c d => exact .own a (f.free b) c d
  | par p a b c d => exact .par p a (f.free b) c d
theorem Gr.frame {F1 : Hp} (g : Gr F1 Z Z') (f : Same F F1) : Gr F Z Z' := ⟨g.zz, fun b hb => g.nf b fun z => hb (f.free z)⟩
/-- a greater frame: one object more, which is no slot's own -/
theorem Wst.frameUp {p : Addr} {o : HO} (W : Wst K F Z H pa σ env) (hp : H p = some o) (hn : ∀ (i : Nat) (v : Option V) (s : Sl), σ[i]? = some v → env[i]? = some s → ownA v s ≠ some p) : Wst K (upd F p o) Z H pa σ env := by
  refine ⟨fun b u e => ?_, W.zh, W.len, fun i v s e1 e2 => ?_, W.dj⟩
  · by_cases q : b = p
    · subst q; rw [upd_same] at e; cases e; exact hp
    · rw [upd_ne q] at e; exact W.fh b u e
  · cases W.sl i v s e1 e2 with
    | no => exact .no _
    | val d => exact .val d
    | own a b c d => exact .own a (by rw [upd_ne (fun q => hn i _ _ e1 e2 (by rw [← q]; rfl))]; exact b) c d
    | par z a b c d => exact .par z a (by rw [upd_ne (fun q => hn i _ _ e1 e2 (by rw [← q]; rfl))]; exact b) c d
theorem same_upd_none {p : Addr} {o : HO} (h : F p = none) : Same F (upd F p o) := upd_none h
/-- a slot set to a frozen value -/
theorem Wst.set {i : Nat} {v : V} {d : D} (W : Wst K F Z H pa σ env) (h : Dp K Z v d) : Wst K F Z H pa (σ.set i (some v)) (env.set i (.val d)) := by
  refine ⟨W.fh, W.zh, by simp [W.len], fun j o s e1 e2 => ?_, fun j k o o' s s' a ne e1 e2 e3 e4 o1 o2 => ?_⟩
  · by_cases hj : i = j
    · subst hj
      by_cases hl : i < σ.length
      · rw [List.getElem?_set_self hl] at e1
        rw [List.getElem?_set_self (by rw [← W.len]; exact hl)] at e2
        cases e1; cases e2
        exact .val h
      · rw [List.getElem?_eq_none (by simpa using hl)] at e1; cases e1
    · rw [List.getElem?_set_ne hj] at e1 e2
      exact W.sl j o s e1 e2
  · have key : ∀ {j : Nat} {o : Option V} {s : Sl}, (σ.set i (some v))[j]? = some o → (env.set i (.val d))[j]? = some s → ownA o s = some a → σ[j]? = some o ∧ env[j]? = some s := by
      intro j o s e1 e2 o1
      by_cases hj : i = j
      · subst hj
        by_cases hl : i < σ.length
        · rw [List.getElem?_set_self (by rw [← W.len]; exact hl)] at e2
          cases e2
          obtain ⟨_, ⟨_, q⟩ | ⟨_, q⟩⟩ := ownA_iff.mp o1 <;> cases q
        · rw [List.getElem?_eq_none (by simpa using hl)] at e1; cases e1
      · rw [List.getElem?_set_ne hj] at e1 e2
        exact ⟨e1, e2⟩
    obtain ⟨a1, a2⟩ := key e1 e2 o1
    obtain ⟨b1, b2⟩ := key e3 e4 o2
    exact W.dj j k o o' s s' a ne a1 a2 b1 b2 o1 o2
end
end Ev
namespace Ev
open PySem PySem.Spec PyProof.Rows L2
/-! ## readings by evaluation -/
def RkOk (K : PySem.W.Frag) (F Z H : Hp) (σ : L2.St) (env : En) (v : V) : R → Prop
  | .val d => Dp K Z v d
  | .fresh ds => ∃ p us, v = .ref p ∧ H p = some (.lst us) ∧ Z p = none ∧ F p = none ∧ DpAll K Z us ds ∧ ∀ (i : Nat) (o : Option V) (s : Sl), σ[i]? = some o → env[i]? = some s → ownA o s ≠ some p
abbrev Fx (α : Type) := En → Option (α × En)
/-- an expression that gives a datum -/
def tE (K : PySem.W.Frag) (f : Fx D) : TE := fun σ H Q => ∃ F pa Z env d env', Wst K F Z H pa σ env ∧ f env = some (d, env') ∧
  ∀ v Z' H', Gr F Z Z' → Wst K F Z' H' pa σ env' → Dp K Z' v d → Q v H'
/-- an expression that gives a datum or a new list -/
def tR (K : PySem.W.Frag) (f : Fx R) : TE := fun σ H Q => ∃ F pa Z env r env', Wst K F Z H pa σ env ∧ f env = some (r, env') ∧
  ∀ v Z' H', Gr F Z Z' → Wst K F Z' H' pa σ env' → RkOk K F Z' H' σ env' v r → Q v H'
/-- a test -/
def tT (K : PySem.W.Frag) (f : Fx Bool) : TT := fun σ H Q => ∃ F pa Z env b env', Wst K F Z H pa σ env ∧ f env = some (b, env') ∧
  ∀ Z' H', Gr F Z Z' → Wst K F Z' H' pa σ env' → Q b H'
theorem PE.imp {X : Cx} {e : Expr} {t t' : TE} (h : PE X e t) (m : ∀ σ H Q, t' σ H Q → t σ H Q) : PE X e t' := ⟨fun pins s σ H Q I q => h.run pins s σ H Q I (m σ H Q q)⟩
theorem PT.imp {X : Cx} {e : Expr} {t t' : TT} (h : PT X e t) (m : ∀ σ H Q, t' σ H Q → t σ H Q) : PT X e t' := ⟨fun pins s σ H Q I q => h.run pins s σ H Q I (m σ H Q q)⟩
theorem PW.imp {X : Cx} {e : Expr} {t t' : TT} (h : PW X e t) (m : ∀ σ H Q, t' σ H Q → t σ H Q) : PW X e t' := ⟨fun w pins s σ H Q I q => h.run w pins s σ H Q I (m σ H Q q)⟩
theorem PS.imp {X : Cx} {e : Stmt} {t t' : TS} (h : PS X e t) (m : ∀ D σ H, t' D σ H → t D σ H) : PS X e t' := ⟨fun pins s σ H D I q => h.run pins s σ H D I (m D σ H q)⟩
theorem PSs.imp {X : Cx} {e : List Stmt} {t t' : TS} (h : PSs X e t) (m : ∀ D σ H, t' D σ H → t D σ H) : PSs X e t' := ⟨fun pins s σ H D I q => h.run pins s σ H D I (m D σ H q)⟩
theorem PA.imp {X : Cx} {e : List Expr} {t t' : TA} (h : PA X e t) (m : ∀ σ H Q, t' σ H Q → t σ H Q) : PA X e t' := ⟨fun pos pins s σ H Q I q => h.run pos pins s σ H Q I (m σ H Q q)⟩
/-! ### slots read -/
def eVar (i : Nat) : Fx D := fun env => match env[i]? with
  | some (.val d) => some (d, env)
  | some (.own ds) => some (.list ds, env.set i (.val (.list ds)))
  | _ => none
/-- an own list is frozen for good -/
theorem Wst.frz {K : PySem.W.Frag} {F Z H : Hp} {pa : Nat → Option Addr} {σ : L2.St} {env : En} {i : Nat} {ds : List D} {a : Addr} {us : List V}
    (W : Wst K F Z H pa σ env) (h0 : σ[i]? = some (some (.ref a))) (he : env[i]? = some (.own ds)) (h1 : H a = some (.lst us)) (h2 : F a = none) (h3 : Z a = none) (h4 : DpAll K Z us ds) :
    Gr F Z (upd Z a (.lst us)) ∧ Wst K F (upd Z a (.lst us)) H pa σ (env.set i (.val (.list ds))) ∧ Dp K (upd Z a (.lst us)) (.ref a) (.list ds) := by
  have zz : Same Z (upd Z a (.lst us)) := upd_none h3
  have dp : Dp K (upd Z a (.lst us)) (.ref a) (.list ds) := .lst (SqL.of upd_same) (DpAll.mono zz _ _ h4)
  have hi : i < env.length := (List.getElem?_eq_some_iff.mp he).1
  refine ⟨⟨zz, fun b hb => upd_ne fun q => hb (by rw [q]; exact h2)⟩, ⟨W.fh, fun b u e => ?_, by simp [W.len], fun j o s e1 e2 => ?_, fun j k o o' s s' b ne e1 e2 e3 e4 o1 o2 => ?_⟩, dp⟩
  · by_cases q : b = a
    · subst q; rw [upd_same] at e; cases e; exact h1
    · rw [upd_ne q] at e; exact W.zh b u e
  · by_cases hj : i = j
    · subst hj
      rw [h0] at e1; cases e1
      rw [List.getElem?_set_self hi] at e2; cases e2
      exact .val dp
    · rw [List.getElem?_set_ne hj] at e2
      refine (W.sl j o s e1 e2).mono zz (fun _ _ _ q => q) fun b hb => upd_ne fun q => ?_
      subst q
      exact W.dj j i o _ s _ _ (Ne.symm hj) e1 e2 h0 he hb rfl
  · have key : ∀ {j : Nat} {o : Option V} {s : Sl}, (env.set i (.val (.list ds)))[j]? = some s → ownA o s = some b → env[j]? = some s := by
      intro j o s e2 o1
      by_cases hj : i = j
      · subst hj
        rw [List.getElem?_set_self hi] at e2; cases e2
        obtain ⟨_, ⟨_, q⟩ | ⟨_, q⟩⟩ := ownA_iff.mp o1 <;> cases q
      · rw [List.getElem?_set_ne hj] at e2; exact e2
    exact W.dj j k o o' s s' b ne e1 (key e2 o1) e3 (key e4 o2) o1 o2
theorem Wst.get {K : PySem.W.Frag} {F Z H : Hp} {pa : Nat → Option Addr} {σ : L2.St} {env : En} {i : Nat} {s : Sl} (W : Wst K F Z H pa σ env) (he : env[i]? = some s) : ∃ o, σ[i]? = some o ∧ SlOk K F Z H pa i o s := by
  have hi : i < env.length := (List.getElem?_eq_some_iff.mp he).1
  have e : σ[i]? = some (σ[i]'(by rw [W.len]; exact hi)) := by simp [W.len, hi]
  exact ⟨_, e, W.sl i _ s e he⟩
section
variable {X : Cx}
theorem s_var {i : Nat} {x : Str} {pos : Pos} (h : PE X (.Name x pos) (tVar i)) : PE X (.Name x pos) (tE X.K (eVar i)) := by
  refine PE.imp h fun σ H Q ⟨F, pa, Z, env, d, env', W, e, k⟩ => ?_
  unfold eVar at e
  cases he : env[i]? with
  | none => rw [he] at e; cases e
  | some s =>
    rw [he] at e
    obtain ⟨o, eo, so⟩ := W.get he
    cases so with
    | no => cases e
    | par => cases e
    | val dp => cases e; exact ⟨_, eo, k _ _ _ (.refl ..) W dp⟩
    | own h1 h2 h3 h4 =>
      cases e
      obtain ⟨g, W', dp⟩ := W.frz eo he h1 h2 h3 h4
      exact ⟨_, eo, k _ _ _ g W' dp⟩
def eC (d : D) : Fx D := fun env => some (d, env)
theorem s_const {e : Expr} {v : V} {d : D} (h : PE X e (tC v)) (q : ∀ Z, Dp X.K Z v d) : PE X e (tE X.K (eC d)) := by
  refine PE.imp h fun σ H Q ⟨F, pa, Z, env, d', env', W, e, k⟩ => ?_
  cases e
  exact k _ _ _ (.refl ..) W (q _)
/-- a new list, frozen -/
def fzR : R × En → D × En
  | (.val d, e) => (d, e)
  | (.fresh ds, e) => (.list ds, e)
def eFz (f : Fx R) : Fx D := fun env => (f env).map fzR
def rV (f : Fx D) : Fx R := fun env => (f env).map fun p => (.val p.1, p.2)
theorem Wst.frzNew {K : PySem.W.Frag} {F Z H : Hp} {pa : Nat → Option Addr} {σ : L2.St} {env : En} {v : V} {r : R} (W : Wst K F Z H pa σ env) (h : RkOk K F Z H σ env v r) :
    ∃ Z', Gr F Z Z' ∧ Wst K F Z' H pa σ env ∧ Dp K Z' v (fzR (r, env)).1 := by
  cases r with
  | val d => exact ⟨Z, .refl .., W, h⟩
  | fresh ds =>
    obtain ⟨p, us, rfl, h1, h3, h2, h4, h5⟩ := h
    have zz : Same Z (upd Z p (.lst us)) := upd_none h3
    refine ⟨upd Z p (.lst us), ⟨zz, fun b hb => upd_ne fun q => hb (by rw [q]; exact h2)⟩, ⟨W.fh, fun b u e => ?_, W.len, fun j o s e1 e2 => ?_, W.dj⟩, .lst (SqL.of upd_same) (DpAll.mono zz _ _ h4)⟩
    · by_cases q : b = p
      · subst q; rw [upd_same] at e; cases e; exact h1
      · rw [upd_ne q] at e; exact W.zh b u e
    · refine (W.sl j o s e1 e2).mono zz (fun _ _ _ q => q) fun b hb => upd_ne fun q => ?_
      subst q
      exact h5 j o s e1 e2 hb
theorem s_fz {e : Expr} {f : Fx R} (h : PE X e (tR X.K f)) : PE X e (tE X.K (eFz f)) := by
  refine PE.imp h fun σ H Q ⟨F, pa, Z, env, d, env', W, e, k⟩ => ?_
  unfold eFz at e
  cases hf : f env with
  | none => rw [hf] at e; cases e
  | some p =>
    obtain ⟨r, env1⟩ := p
    rw [hf] at e
    have e2 : fzR (r, env1) = (d, env') := Option.some.inj e
    refine ⟨F, pa, Z, env, r, env1, W, hf, fun v Z' H' g W' q => ?_⟩
    obtain ⟨Z2, g2, W2, dp⟩ := W'.frzNew q
    have e3 : (fzR (r, env1)).1 = d := by rw [e2]
    have e4 : env1 = env' := by
      have : (fzR (r, env1)).2 = env' := by rw [e2]
      cases r <;> exact this
    subst e4
    exact k v Z2 H' (g.trans g2) W2 (e3 ▸ dp)
theorem s_rV {e : Expr} {f : Fx D} (h : PE X e (tE X.K f)) : PE X e (tR X.K (rV f)) := by
  refine PE.imp h fun σ H Q ⟨F, pa, Z, env, d, env', W, e, k⟩ => ?_
  unfold rV at e
  cases hf : f env with
  | none => rw [hf] at e; cases e
  | some p =>
    obtain ⟨d1, env1⟩ := p
    rw [hf] at e
    cases e
    exact ⟨F, pa, Z, env, d1, env1, W, hf, fun v Z' H' g W' q => k v Z' H' g W' q⟩
/-! ### operators by values -/
/-- r is right for the datum function g -/
def Imp2 (K : PySem.W.Frag) (r : R2) (g : D → D → Option D) : Prop := ∀ (Z H : Hp) (x y : V) (d e z : D) (Q : VK), Same Z H → Dp K Z x d → Dp K Z y e → g d e = some z →
  (∀ v Z' H', Alc Z H Z' H' → Dp K Z' v z → Q v H') → r x y H Q
def Op2 (X : Cx) (f : Value → Value → Sem Value) (g : D → D → Option D) : Prop := ∃ r, OpR X f r ∧ Imp2 X.K r g
def eOp (g : D → D → Option D) (f1 f2 : Fx D) : Fx D := fun env => (f1 env).bind fun p => (f2 p.2).bind fun q => (g p.1 q.1).map fun z => (z, q.2)
theorem eOp_some {g : D → D → Option D} {f1 f2 : Fx D} {env env' : En} {z : D} (h : eOp g f1 f2 env = some (z, env')) : ∃ d env1 e, f1 env = some (d, env1) ∧ f2 env1 = some (e, env') ∧ g d e = some z := by
  unfold eOp at h
  cases h1 : f1 env with
  | none => rw [h1] at h; cases h
  | some p =>
    rw [h1, Option.bind_some] at h
    cases h2 : f2 p.2 with
    | none => rw [h2] at h; cases h
    | some q =>
      rw [h2, Option.bind_some] at h
      cases h3 : g p.1 q.1 with
      | none => rw [h3] at h; cases h
      | some w =>
        rw [h3] at h
        cases h
        exact ⟨p.1, p.2, q.1, rfl, h2, h3⟩
theorem tOp_of {K : PySem.W.Frag} {r : R2} {g : D → D → Option D} {f1 f2 : Fx D} (hi : Imp2 K r g) {σ : L2.St} {H : Hp} {Q : VK} (h : tE K (eOp g f1 f2) σ H Q) : tOp r (tE K f1) (tE K f2) σ H Q := by
  obtain ⟨F, pa, Z, env, z, env', W, e, k⟩ := h
  obtain ⟨d, env1, e1, h1, h2, h3⟩ := eOp_some e
  refine ⟨F, pa, Z, env, d, env1, W, h1, fun x Z1 H1 g1 W1 q1 => ⟨F, pa, Z1, env1, e1, env', W1, h2, fun y Z2 H2 g2 W2 q2 => ?_⟩⟩
  exact hi Z2 H2 x y d e1 z Q W2.zh (Dp.mono g2.zz _ _ q1) q2 h3 fun v Z3 H3 a q => k v Z3 H3 ((g1.trans g2).trans (a.gr W2.fh)) (W2.alc a) q
variable {a b c : Expr} {fa fb fc : Fx D} {pos : Pos}
theorem s_bin {op : Operator} {g : D → D → Option D} (ho : Op2 X (binaryOp op) g) (ha : PE X a (tE X.K fa)) (hb : PE X b (tE X.K fb)) : PE X (.BinOp a op b pos) (tE X.K (eOp g fa fb)) := by
  obtain ⟨r, hr, hi⟩ := ho
  exact PE.imp (pe_op hr ha hb) fun σ H Q h => tOp_of hi h
theorem s_cmp {op : CmpOp} {g : D → D → Option D} (ho : Op2 X (compareOp op) g) (ha : PE X a (tE X.K fa)) (hb : PE X b (tE X.K fb)) (hm : behindInMarks op b = false) : PE X (.Compare a [op] [b] pos) (tE X.K (eOp g fa fb)) := by
  obtain ⟨r, hr, hi⟩ := ho
  exact PE.imp (pe_cmpR hr ha hb hm) fun σ H Q h => tOp_of hi h
/-- a datum that is a bool, as a test -/
def eB (f : Fx D) : Fx Bool := fun env => match f env with
  | some (.bool b, e) => some (b, e)
  | _ => none
theorem eB_some {f : Fx D} {env env' : En} {b : Bool} (h : eB f env = some (b, env')) : f env = some (.bool b, env') := by
  unfold eB at h
  split at h
  · rename_i b' e' q
    cases h
    exact q
  · cases h
theorem tB_of {K : PySem.W.Frag} {f : Fx D} {σ : L2.St} {H : Hp} {Q : Bool → Hp → Prop} (h : tT K (eB f) σ H Q) : tE K f σ H fun x H' => ∃ k, x = .bl k ∧ Q k H' := by
  obtain ⟨F, pa, Z, env, b, env', W, e, k⟩ := h
  refine ⟨F, pa, Z, env, _, env', W, eB_some e, fun v Z' H' g W' q => ?_⟩
  cases q
  exact ⟨b, rfl, k Z' H' g W'⟩
theorem s_cmpT {op : CmpOp} {g : D → D → Option D} (ho : Op2 X (compareOp op) g) (ha : PE X a (tE X.K fa)) (hb : PE X b (tE X.K fb)) (hm : behindInMarks op b = false) : PT X (.Compare a [op] [b] pos) (tT X.K (eB (eOp g fa fb))) := by
  obtain ⟨r, hr, hi⟩ := ho
  exact PT.imp (pt_cmpR hr ha hb hm) fun σ H Q h => tOp_of hi (tB_of h)
def eChain (g g' : D → D → Option D) (f1 f2 f3 : Fx D) : Fx D := fun env => (f1 env).bind fun p => (f2 p.2).bind fun q => match g p.1 q.1 with
  | some (.bool true) => (f3 q.2).bind fun r => (g' q.1 r.1).map fun z => (z, r.2)
  | some (.bool false) => some (.bool false, q.2)
  | _ => none
theorem tChain_of {K : PySem.W.Frag} {r r' : R2} {g g' : D → D → Option D} {f1 f2 f3 : Fx D} (hi : Imp2 K r g) (hi' : Imp2 K r' g') {σ : L2.St} {H : Hp} {Q : VK} (h : tE K (eChain g g' f1 f2 f3) σ H Q) : tChain r r' (tE K f1) (tE K f2) (tE K f3) σ H Q := by
  obtain ⟨F, pa, Z, env, z, env', W, e, k⟩ := h
  unfold eChain at e
  cases h1 : f1 env with
  | none => rw [h1] at e; cases e
  | some p =>
    obtain ⟨d1, env1⟩ := p
    rw [h1, Option.bind_some] at e
    cases h2 : f2 env1 with
    | none => simp only [h2] at e; cases e
    | some q =>
      obtain ⟨d2, env2⟩ := q
      simp only [h2, Option.bind_some] at e
      refine ⟨F, pa, Z, env, d1, env1, W, h1, fun x Z1 H1 g1 W1 q1 => ⟨F, pa, Z1, env1, d2, env2, W1, h2, fun y Z2 H2 g2 W2 q2 => ?_⟩⟩
      cases h3 : g d1 d2 with
      | none => rw [h3] at e; cases e
      | some w =>
        rw [h3] at e
        cases w with
        | bool bb =>
          refine hi Z2 H2 x y d1 d2 _ _ W2.zh (Dp.mono g2.zz _ _ q1) q2 h3 fun v Z3 H3 al q => ?_
          cases q
          have W3 := W2.alc al
          have g3 := (g1.trans g2).trans (al.gr W2.fh)
          refine ⟨bb, rfl, ?_⟩
          cases bb with
          | false =>
            cases e
            exact iteF (k _ Z3 H3 g3 W3 (.bl false))
          | true =>
            cases h4 : f3 env2 with
            | none => simp only [h4] at e; cases e
            | some u =>
              obtain ⟨d3, env3⟩ := u
              simp only [h4, Option.bind_some] at e
              cases h5 : g' d2 d3 with
              | none => rw [h5] at e; cases e
              | some zz =>
                rw [h5] at e
                cases e
                refine iteT ⟨F, pa, Z3, env2, d3, _, W3, h4, fun w Z4 H4 g4 W4 q4 => ?_⟩
                exact hi' Z4 H4 y w d2 d3 z Q W4.zh (Dp.mono (al.zz.trans g4.zz) _ _ q2) q4 h5 fun v Z5 H5 a q => k v Z5 H5 ((g3.trans g4).trans (a.gr W4.fh)) (W4.alc a) q
        | _ => cases e
theorem s_chain {op op' : CmpOp} {g g' : D → D → Option D} (ho : Op2 X (compareOp op) g) (ho' : Op2 X (compareOp op') g') (ha : PE X a (tE X.K fa)) (hb : PE X b (tE X.K fb)) (hc : PE X c (tE X.K fc)) (hm : lastMarks [op, op'] [b, c] = false) :
    PE X (.Compare a [op, op'] [b, c] pos) (tE X.K (eChain g g' fa fb fc)) := by
  obtain ⟨r, hr, hi⟩ := ho
  obtain ⟨r', hr', hi'⟩ := ho'
  exact PE.imp (pe_chain hr hr' ha hb hc hm) fun σ H Q h => tChain_of hi hi' h
theorem s_chainT {op op' : CmpOp} {g g' : D → D → Option D} (ho : Op2 X (compareOp op) g) (ho' : Op2 X (compareOp op') g') (ha : PE X a (tE X.K fa)) (hb : PE X b (tE X.K fb)) (hc : PE X c (tE X.K fc)) (hm : lastMarks [op, op'] [b, c] = false) :
    PT X (.Compare a [op, op'] [b, c] pos) (tT X.K (eB (eChain g g' fa fb fc))) := by
  obtain ⟨r, hr, hi⟩ := ho
  obtain ⟨r', hr', hi'⟩ := ho'
  exact PT.imp (pt_chain hr hr' ha hb hc hm) fun σ H Q h => tChain_of hi hi' (tB_of h)
/-! ### tests -/
/-- a datum's truth -/
def truD : D → Option Bool
  | .none => some false
  | .bool b => some b
  | .int i => some (i != 0)
  | .str x => if x.length ≤ sizeLine then some ((x.length : Int) != 0) else none
  | .list ds => some (!ds.isEmpty)
  | .tuple ds => some (!ds.isEmpty)
  | .dict _ => none
def eTru (f : Fx D) : Fx Bool := fun env => (f env).bind fun p => (truD p.1).map fun b => (b, p.2)
theorem da_isEmpty {K : PySem.W.Frag} {Z : Hp} {vs : List V} {ds : List D} (h : DpAll K Z vs ds) : vs.isEmpty = ds.isEmpty := by
  cases h <;> rfl
theorem Same.sqT {K : PySem.W.Frag} {H H' : Hp} {a : Addr} {xs : List V} (e : Same H H') (h : SqT K H a xs) : SqT K H' a xs := by
  rcases h with (h | ⟨o, h⟩) | h
  · exact .inl (.inl (e _ _ h))
  · exact .inl (.inr ⟨o, e _ _ h⟩)
  · exact .inr h
theorem truV_of {K : PySem.W.Frag} {Z H : Hp} {v : V} {d : D} {b : Bool} (zh : Same Z H) (h : Dp K Z v d) (e : truD d = some b) : TruV K v H b := by
  cases h with
  | non => cases e; rfl
  | bl b => cases e; rfl
  | int i => cases e; rfl
  | str x =>
    have e2 : (if x.length ≤ sizeLine then some ((x.length : Int) != 0) else none) = some b := e
    by_cases q : x.length ≤ sizeLine
    · rw [if_pos q] at e2; cases e2; exact ⟨q, rfl⟩
    · rw [if_neg q] at e2; cases e2
  | lst hs ha => cases e; exact .inl ⟨_, zh.seq hs, by rw [da_isEmpty ha]⟩
  | tup hs ha => cases e; exact .inr (.inl ⟨_, Same.sqT zh hs, by rw [da_isEmpty ha]⟩)
theorem s_tru (ha : PE X a (tE X.K fa)) (he : ∀ whole, isTrue a X.env whole = (do let v ← whole; standAt a.pos; holding [v] (truthy v))) : PT X a (tT X.K (eTru fa)) := by
  refine PT.imp (pt_truth ha he) fun σ H Q ⟨F, pa, Z, env, b, env', W, e, k⟩ => ?_
  unfold eTru at e
  cases h1 : fa env with
  | none => rw [h1] at e; cases e
  | some p =>
    obtain ⟨d, env1⟩ := p
    rw [h1, Option.bind_some] at e
    cases h2 : truD d with
    | none => simp only [h2] at e; cases e
    | some bb =>
      simp only [h2] at e
      cases e
      exact ⟨F, pa, Z, env, d, _, W, h1, fun v Z' H' g W' q => ⟨b, truV_of W'.zh q h2, k Z' H' g W'⟩⟩
def eNotT (f : Fx Bool) : Fx Bool := fun env => (f env).map fun p => (!p.1, p.2)
theorem s_notT {f : Fx Bool} (h : PT X a (tT X.K f)) : PT X (.UnaryOp .Not a pos) (tT X.K (eNotT f)) := by
  refine PT.imp (pt_not h) fun σ H Q ⟨F, pa, Z, env, b, env', W, e, k⟩ => ?_
  unfold eNotT at e
  cases h1 : f env with
  | none => rw [h1] at e; cases e
  | some p =>
    rw [h1] at e
    cases e
    exact ⟨F, pa, Z, env, p.1, p.2, W, h1, fun Z' H' g W' => k Z' H' g W'⟩
def eAndT (f g : Fx Bool) : Fx Bool := fun env => match f env with
  | some (true, e) => g e
  | some (false, e) => some (false, e)
  | none => none
def eOrT (f g : Fx Bool) : Fx Bool := fun env => match f env with
  | some (false, e) => g e
  | some (true, e) => some (true, e)
  | none => none
theorem s_and1 {f : Fx Bool} (h : PT X a (tT X.K f)) : PW X (.BoolOp .And [a] pos) (tT X.K f) := pw_and1 h
theorem s_or1 {f : Fx Bool} (h : PT X a (tT X.K f)) : PW X (.BoolOp .Or [a] pos) (tT X.K f) := pw_or1 h
theorem s_andT {f g : Fx Bool} {rest : List Expr} (h : PT X a (tT X.K f)) (h2 : PW X (.BoolOp .And (b :: rest) pos) (tT X.K g)) : PW X (.BoolOp .And (a :: b :: rest) pos) (tT X.K (eAndT f g)) := by
  refine PW.imp (pw_and h h2) fun σ H Q ⟨F, pa, Z, env, bb, env', W, e, k⟩ => ?_
  unfold eAndT at e
  cases h1 : f env with
  | none => rw [h1] at e; cases e
  | some p =>
    obtain ⟨b1, env1⟩ := p
    rw [h1] at e
    refine ⟨F, pa, Z, env, b1, env1, W, h1, fun Z' H' g1 W' => ?_⟩
    cases b1 with
    | false => cases e; exact iteF (k Z' H' g1 W')
    | true => exact iteT ⟨F, pa, Z', env1, bb, env', W', e, fun Z2 H2 g2 W2 => k Z2 H2 (g1.trans g2) W2⟩
theorem s_orT {f g : Fx Bool} {rest : List Expr} (h : PT X a (tT X.K f)) (h2 : PW X (.BoolOp .Or (b :: rest) pos) (tT X.K g)) : PW X (.BoolOp .Or (a :: b :: rest) pos) (tT X.K (eOrT f g)) := by
  refine PW.imp (pw_or h h2) fun σ H Q ⟨F, pa, Z, env, bb, env', W, e, k⟩ => ?_
  unfold eOrT at e
  cases h1 : f env with
  | none => rw [h1] at e; cases e
  | some p =>
    obtain ⟨b1, env1⟩ := p
    rw [h1] at e
    refine ⟨F, pa, Z, env, b1, env1, W, h1, fun Z' H' g1 W' => ?_⟩
    cases b1 with
    | true => cases e; exact iteT (k Z' H' g1 W')
    | false => exact iteF ⟨F, pa, Z', env1, bb, env', W', e, fun Z2 H2 g2 W2 => k Z2 H2 (g1.trans g2) W2⟩
/-! ### and, or, not, if as values -/
def eAnd (f g : Fx D) : Fx D := fun env => match f env with
  | some (.bool true, e) => g e
  | some (.bool false, e) => some (.bool false, e)
  | _ => none
def eOr (f g : Fx D) : Fx D := fun env => match f env with
  | some (.bool false, e) => g e
  | some (.bool true, e) => some (.bool true, e)
  | _ => none
theorem s_and {rest : List Expr} (h : PE X a (tE X.K fa)) (h2 : PE X (.BoolOp .And (b :: rest) pos) (tE X.K fb)) : PE X (.BoolOp .And (a :: b :: rest) pos) (tE X.K (eAnd fa fb)) := by
  refine PE.imp (pe_and h h2) fun σ H Q ⟨F, pa, Z, env, d, env', W, e, k⟩ => ?_
  unfold eAnd at e
  split at e
  · rename_i e1 h1
    refine ⟨F, pa, Z, env, _, e1, W, h1, fun v Z' H' g1 W' q => ?_⟩
    cases q
    exact ⟨true, rfl, iteT ⟨F, pa, Z', e1, d, env', W', e, fun v Z2 H2 g2 W2 q2 => k v Z2 H2 (g1.trans g2) W2 q2⟩⟩
  · rename_i e1 h1
    cases e
    refine ⟨F, pa, Z, env, _, _, W, h1, fun v Z' H' g1 W' q => ?_⟩
    cases q
    exact ⟨false, rfl, iteF (k _ Z' H' g1 W' (.bl false))⟩
  · cases e
theorem s_or {rest : List Expr} (h : PE X a (tE X.K fa)) (h2 : PE X (.BoolOp .Or (b :: rest) pos) (tE X.K fb)) : PE X (.BoolOp .Or (a :: b :: rest) pos) (tE X.K (eOr fa fb)) := by
  refine PE.imp (pe_or h h2) fun σ H Q ⟨F, pa, Z, env, d, env', W, e, k⟩ => ?_
  unfold eOr at e
  split at e
  · rename_i e1 h1
    refine ⟨F, pa, Z, env, _, e1, W, h1, fun v Z' H' g1 W' q => ?_⟩
    cases q
    exact ⟨false, rfl, iteF ⟨F, pa, Z', e1, d, env', W', e, fun v Z2 H2 g2 W2 q2 => k v Z2 H2 (g1.trans g2) W2 q2⟩⟩
  · rename_i e1 h1
    cases e
    refine ⟨F, pa, Z, env, _, _, W, h1, fun v Z' H' g1 W' q => ?_⟩
    cases q
    exact ⟨true, rfl, iteT (k _ Z' H' g1 W' (.bl true))⟩
  · cases e
def eNot (f : Fx D) : Fx D := fun env => match f env with
  | some (.bool b, e) => some (.bool (!b), e)
  | _ => none
theorem s_not (h : PE X a (tE X.K fa)) : PE X (.UnaryOp .Not a pos) (tE X.K (eNot fa)) := by
  refine PE.imp (pe_not h) fun σ H Q ⟨F, pa, Z, env, d, env', W, e, k⟩ => ?_
  unfold eNot at e
  split at e
  · rename_i b e1 h1
    cases e
    refine ⟨F, pa, Z, env, _, _, W, h1, fun v Z' H' g1 W' q => ?_⟩
    cases q
    exact ⟨b, rfl, k _ Z' H' g1 W' (.bl _)⟩
  · cases e
def eNeg (f : Fx D) : Fx D := fun env => match f env with
  | some (.int i, e) => some (.int (-i), e)
  | _ => none
theorem s_neg (h : PE X a (tE X.K fa)) : PE X (.UnaryOp .USub a pos) (tE X.K (eNeg fa)) := by
  refine PE.imp (pe_un un_neg h) fun σ H Q ⟨F, pa, Z, env, d, env', W, e, k⟩ => ?_
  unfold eNeg at e
  split at e
  · rename_i i e1 h1
    cases e
    refine ⟨F, pa, Z, env, _, _, W, h1, fun v Z' H' g1 W' q => ?_⟩
    cases q
    exact ⟨i, rfl, k _ Z' H' g1 W' (.int _)⟩
  · cases e
def eIf {α : Type} (c : Fx Bool) (f g : Fx α) : Fx α := fun env => match c env with
  | some (true, e) => f e
  | some (false, e) => g e
  | none => none
theorem s_ifE {ft : Fx Bool} (hc : PT X c (tT X.K ft)) (ha : PE X a (tE X.K fa)) (hb : PE X b (tE X.K fb)) : PE X (.IfExp c a b pos) (tE X.K (eIf ft fa fb)) := by
  refine PE.imp (pe_ifExp hc ha hb) fun σ H Q ⟨F, pa, Z, env, d, env', W, e, k⟩ => ?_
  unfold eIf at e
  split at e
  · rename_i e1 h1
    refine ⟨F, pa, Z, env, _, e1, W, h1, fun Z' H' g1 W' => ?_⟩
    exact iteT ⟨F, pa, Z', e1, d, env', W', e, fun v Z2 H2 g2 W2 q2 => k v Z2 H2 (g1.trans g2) W2 q2⟩
  · rename_i e1 h1
    refine ⟨F, pa, Z, env, _, e1, W, h1, fun Z' H' g1 W' => ?_⟩
    exact iteF ⟨F, pa, Z', e1, d, env', W', e, fun v Z2 H2 g2 W2 q2 => k v Z2 H2 (g1.trans g2) W2 q2⟩
  · cases e
end
end Ev
namespace Ev
open PySem PySem.Spec PyProof.Rows L2
/-! ## operators -/
theorem Imp2.or {K : PySem.W.Frag} {r r' : R2} {g g' h : D → D → Option D} (a : Imp2 K r g) (b : Imp2 K r' g') (e : ∀ x y z, h x y = some z → g x y = some z ∨ g' x y = some z) : Imp2 K (fun x y H Q => r x y H Q ∨ r' x y H Q) h :=
  fun Z H x y d1 d2 z Q zh q1 q2 hz k => (e _ _ _ hz).elim (fun q => .inl (a Z H x y d1 d2 z Q zh q1 q2 q k)) fun q => .inr (b Z H x y d1 d2 z Q zh q1 q2 q k)
theorem Op2.or {X : Cx} {f : Value → Value → Sem Value} {g g' h : D → D → Option D} (a : Op2 X f g) (b : Op2 X f g') (e : ∀ x y z, h x y = some z → g x y = some z ∨ g' x y = some z) : Op2 X f h :=
  let ⟨r, h1, h2⟩ := a; let ⟨r', h1', h2'⟩ := b; ⟨_, h1.or h1', h2.or h2' e⟩
/-- an operator of two ints whose answer is a scalar v (as a datum w) -/
def gI (C : Int → Int → Bool) (g : Int → Int → D) : D → D → Option D
  | .int i, .int j => if C i j = true then some (g i j) else none
  | _, _ => none
theorem gI_some {C : Int → Int → Bool} {g : Int → Int → D} {d e z : D} (h : gI C g d e = some z) : ∃ i j, d = .int i ∧ e = .int j ∧ C i j = true ∧ z = g i j := by
  unfold gI at h
  split at h
  · rename_i i j
    by_cases q : C i j = true
    · rw [if_pos q] at h; cases h; exact ⟨i, j, rfl, rfl, q, rfl⟩
    · rw [if_neg q] at h; cases h
  · cases h
theorem imp_rI {K : PySem.W.Frag} {C : Int → Int → Prop} {c : Int → Int → Bool} {g : Int → Int → Int} (hc : ∀ i j, c i j = true → C i j) : Imp2 K (rI C fun i j => .int (g i j)) (gI c fun i j => .int (g i j)) := by
  intro Z H x y d e z Q zh q1 q2 hz k
  obtain ⟨i, j, rfl, rfl, h, rfl⟩ := gI_some hz
  cases q1; cases q2
  exact ⟨i, j, rfl, rfl, hc i j h, k _ Z H (.refl zh) (.int _)⟩
theorem imp_rI0 {K : PySem.W.Frag} {g : Int → Int → Int} : Imp2 K (rI0 fun i j => .int (g i j)) (gI (fun _ _ => true) fun i j => .int (g i j)) := by
  intro Z H x y d e z Q zh q1 q2 hz k
  obtain ⟨i, j, rfl, rfl, h, rfl⟩ := gI_some hz
  cases q1; cases q2
  exact ⟨i, j, rfl, rfl, k _ Z H (.refl zh) (.int _)⟩
theorem imp_rB0 {K : PySem.W.Frag} {g : Int → Int → Bool} : Imp2 K (rI0 fun i j => .bl (g i j)) (gI (fun _ _ => true) fun i j => .bool (g i j)) := by
  intro Z H x y d e z Q zh q1 q2 hz k
  obtain ⟨i, j, rfl, rfl, h, rfl⟩ := gI_some hz
  cases q1; cases q2
  exact ⟨i, j, rfl, rfl, k _ Z H (.refl zh) (.bl _)⟩
def gAddS : D → D → Option D
  | .str a, .str b => if a.length + b.length ≤ sizeLine then some (.str (a ++ b)) else none
  | _, _ => none
def gAddT : D → D → Option D
  | .tuple xs, .tuple ys => if xs.length + ys.length ≤ sizeLine then some (.tuple (xs ++ ys)) else none
  | _, _ => none
def gAddL : D → D → Option D
  | .list xs, .list ys => if xs.length + ys.length ≤ sizeLine then some (.list (xs ++ ys)) else none
  | _, _ => none
def gAdd : D → D → Option D
  | .int i, .int j => some (.int (i + j))
  | .str a, .str b => if a.length + b.length ≤ sizeLine then some (.str (a ++ b)) else none
  | .tuple xs, .tuple ys => if xs.length + ys.length ≤ sizeLine then some (.tuple (xs ++ ys)) else none
  | .list xs, .list ys => if xs.length + ys.length ≤ sizeLine then some (.list (xs ++ ys)) else none
  | _, _ => none
section
variable {X : Cx}
theorem o_addS : Op2 X (binaryOp .Add) gAddS := ⟨_, op_add_str, by
  intro Z H x y d e z Q zh q1 q2 hz k
  cases q1 <;> (try (cases hz; done))
  cases q2 <;> (try (cases hz; done))
  rename_i a b
  have hz' : (if a.length + b.length ≤ sizeLine then some (PyData.str (a ++ b)) else none) = some z := hz
  by_cases h : a.length + b.length ≤ sizeLine
  · rw [if_pos h] at hz'; cases hz'
    exact ⟨a, b, rfl, rfl, h, k _ Z H (.refl zh) (.str _)⟩
  · rw [if_neg h] at hz'; cases hz'⟩
theorem o_addT : Op2 X (binaryOp .Add) gAddT := ⟨_, op_catA, by
  intro Z H x y d e z Q zh q1 q2 hz k
  cases q1 <;> (try (cases hz; done))
  cases q2 <;> (try (cases hz; done))
  rename_i a us ds hs ha b us' ds' hs' ha'
  have hz' : (if ds.length + ds'.length ≤ sizeLine then some (PyData.tuple (ds ++ ds')) else none) = some z := hz
  by_cases h : ds.length + ds'.length ≤ sizeLine
  · rw [if_pos h] at hz'; cases hz'
    have l1 := da_length ha
    have l2 := da_length ha'
    refine ⟨a, b, us, us', rfl, rfl, Same.sqT zh hs, Same.sqT zh hs', by omega, fun e => ?_, fun _ e => ?_, fun _ _ p hp => ?_⟩
    · subst e; cases ha
      exact k _ Z H (.refl zh) (.tup hs' ha')
    · subst e; cases ha'
      rw [List.append_nil] at k
      exact k _ Z H (.refl zh) (.tup hs ha)
    · have al := Alc.new (o := .tup (us ++ us')) zh hp
      exact k _ _ _ al (.tup (SqT.of upd_same) (DpAll.mono al.zz _ _ (da_append ha ha')))
  · rw [if_neg h] at hz'; cases hz'⟩
theorem op_catL : OpR X (binaryOp .Add) (fun x y H Q => ∃ a b xs ys, x = .ref a ∧ y = .ref b ∧ SqL X.K H a xs ∧ SqL X.K H b ys ∧ xs.length + ys.length ≤ sizeLine ∧ ∀ p, H p = none → Q (.ref p) (upd H p (.lst (xs ++ ys)))) := by
  intro pins s σ H x y v u Q I rx ry h
  obtain ⟨l, b, xs, ys, rfl, rfl, ha, hb, hz, q⟩ := h
  cases rx
  cases ry
  obtain ⟨its, r, pl, _⟩ := I.list ha
  obtain ⟨its2, r2, pl2, _⟩ := I.list hb
  obtain ⟨⟨cls, dd, data, sl⟩, ho, hc, n, hd⟩ := pl.isList
  obtain ⟨⟨cls2, dd2, data2, sl2⟩, ho2, hc2, n2, hd2⟩ := pl2.isList
  simp only at hc hd hc2 hd2
  subst hc hd hc2 hd2
  have e : its.toArray ++ its2.toArray = (its ++ its2).toArray := by simp
  have h1 := r.length
  have h2 := r2.length
  refine concat_meets ⟨_, ho, rfl⟩ ⟨_, ho2, rfl⟩ noFill_list_add seq_list_add PySem.F.slot_list_add PySem.F.entry_list_add (PySem.F.args_list_add_2 _ _) (list_addW l b its.toArray its2.toArray n n2 dd dd2 sl sl2 (by rw [List.size_toArray, List.size_toArray]; omega)) ⟨ho, ho2, ?_⟩
  rw [e]
  exact ⟨.ref _, _, I.lnew (t' := s.toks) (r.append r2) (by rw [List.length_append]; omega), rfl, q _ I.fresh⟩
theorem o_addL : Op2 X (binaryOp .Add) gAddL := ⟨_, op_catL, by
  intro Z H x y d e z Q zh q1 q2 hz k
  cases q1 <;> (try (cases hz; done))
  cases q2 <;> (try (cases hz; done))
  rename_i a us ds hs ha b us' ds' hs' ha'
  have hz' : (if ds.length + ds'.length ≤ sizeLine then some (PyData.list (ds ++ ds')) else none) = some z := hz
  by_cases h : ds.length + ds'.length ≤ sizeLine
  · rw [if_pos h] at hz'; cases hz'
    have l1 := da_length ha
    have l2 := da_length ha'
    refine ⟨a, b, us, us', rfl, rfl, zh.seq hs, zh.seq hs', by omega, fun p hp => ?_⟩
    have al := Alc.new (o := .lst (us ++ us')) zh hp
    exact k _ _ _ al (.lst (SqL.of upd_same) (DpAll.mono al.zz _ _ (da_append ha ha')))
  · rw [if_neg h] at hz'; cases hz'⟩
theorem o_add : Op2 X (binaryOp .Add) gAdd := by
  refine Op2.or (Op2.or ⟨_, op_add, imp_rI0⟩ o_addS (h := fun d e => match d, e with | .int i, .int j => some (.int (i + j)) | .str a, .str b => gAddS (.str a) (.str b) | _, _ => none) fun x y z h => ?_)
    (Op2.or o_addT o_addL (h := fun d e => match d, e with | .tuple i, .tuple j => gAddT (.tuple i) (.tuple j) | .list i, .list j => gAddL (.list i) (.list j) | _, _ => none) fun x y z h => ?_) fun x y z h => ?_
  · cases x <;> cases y <;> first | (cases h; done) | exact .inl h | exact .inr h
  · cases x <;> cases y <;> first | (cases h; done) | exact .inl h | exact .inr h
  · cases x <;> cases y <;> first | (cases h; done) | exact .inl h | exact .inr h
def gSubI : D → D → Option D := gI (fun _ _ => true) fun i j => .int (i - j)
theorem o_subI : Op2 X (binaryOp .Sub) gSubI := ⟨_, op_sub, imp_rI0⟩
def b01 (b : Bool) : Int := if b = true then 1 else 0
def gSubB : D → D → Option D
  | .bool a, .bool b => some (.int (b01 a - b01 b))
  | _, _ => none
theorem op_subB : OpR X (binaryOp .Sub) (fun x y H Q => ∃ a b, x = .bl a ∧ y = .bl b ∧ Q (.int (b01 a - b01 b)) H) := by
  intro pins s σ H x y u v Q I rx ry h
  obtain ⟨a, b, rfl, rfl, q⟩ := h
  cases rx
  cases ry
  exact PyProof.Rows.sub_bool ⟨.int _, H, I.tok _, ⟨_, by cases a <;> cases b <;> rfl⟩, q⟩
theorem o_subB : Op2 X (binaryOp .Sub) gSubB := ⟨_, op_subB, by
  intro Z H x y d e z Q zh h1 h2 hg k
  unfold gSubB at hg
  split at hg
  · cases hg
    cases h1
    cases h2
    exact ⟨_, _, rfl, rfl, k _ Z H (.refl zh) (.int _)⟩
  · cases hg⟩
def gSub (d e : D) : Option D := match d, e with
  | .bool a, .bool b => some (.int (b01 a - b01 b))
  | d, e => gSubI d e
theorem o_sub : Op2 X (binaryOp .Sub) gSub := Op2.or o_subI o_subB fun x y z h => by
  unfold gSub at h
  split at h
  · exact .inr h
  · exact .inl h
/-- together less than a million bits -/
def mulOk (i j : Int) : Bool := decide (i.natAbs.log2 + j.natAbs.log2 < 1000000)
theorem mulOk_of {i j : Int} (h : mulOk i j = true) : CMulW i j := by
  have h2 : i.natAbs.log2 + j.natAbs.log2 < 1000000 := of_decide_eq_true h
  exact h2
def gMulI : D → D → Option D := gI mulOk fun i j => .int (i * j)
def gMulT : D → D → Option D
  | .tuple xs, .int k => if xs ≠ [] ∧ 2 ≤ k ∧ k ≤ 1000 ∧ xs.length ≤ 1000 then some (.tuple (List.replicate k.toNat xs).flatten) else none
  | _, _ => none
def gMul : D → D → Option D
  | .int i, .int j => if mulOk i j = true then some (.int (i * j)) else none
  | .tuple xs, .int k => if xs ≠ [] ∧ 2 ≤ k ∧ k ≤ 1000 ∧ xs.length ≤ 1000 then some (.tuple (List.replicate k.toNat xs).flatten) else none
  | _, _ => none
theorem da_rep {K : PySem.W.Frag} {Z : Hp} {vs : List V} {ds : List D} (h : DpAll K Z vs ds) : ∀ n : Nat, DpAll K Z (List.replicate n vs).flatten (List.replicate n ds).flatten
  | 0 => .nil
  | n + 1 => by
    rw [List.replicate_succ, List.replicate_succ, List.flatten_cons, List.flatten_cons]
    exact da_append h (da_rep h n)
theorem o_mulT : Op2 X (binaryOp .Mult) gMulT := ⟨_, op_repT, by
  intro Z H x y d e z Q zh q1 q2 hz k
  cases q1 <;> (try (cases hz; done))
  cases q2 <;> (try (cases hz; done))
  rename_i a us ds hs ha n
  have hz' : (if ds ≠ [] ∧ 2 ≤ n ∧ n ≤ 1000 ∧ ds.length ≤ 1000 then some (PyData.tuple (List.replicate n.toNat ds).flatten) else none) = some z := hz
  by_cases h : ds ≠ [] ∧ 2 ≤ n ∧ n ≤ 1000 ∧ ds.length ≤ 1000
  · rw [if_pos h] at hz'; cases hz'
    have l1 := da_length ha
    refine ⟨a, n, us, rfl, rfl, Same.sqT zh hs, fun e => ?_, h.2.1, h.2.2.1, by omega, fun p hp => ?_⟩
    · subst e; cases ha; exact h.1 rfl
    · have al := Alc.new (o := .tup (List.replicate n.toNat us).flatten) zh hp
      exact k _ _ _ al (.tup (SqT.of upd_same) (DpAll.mono al.zz _ _ (da_rep ha _)))
  · rw [if_neg h] at hz'; cases hz'⟩
theorem o_mul : Op2 X (binaryOp .Mult) gMul := by
  refine Op2.or (g := gMulI) ⟨_, op_mulW, imp_rI fun i j h => mulOk_of h⟩ o_mulT fun x y z h => ?_
  cases x <;> cases y <;> first | (cases h; done) | exact .inl h | exact .inr h
def fdivOk (_ j : Int) : Bool := decide (j ≠ 0) && decide (j.natAbs.log2 < 9000)
def gFdiv : D → D → Option D := gI fdivOk fun i j => .int (i.fdiv j)
theorem op_fdivA : OpR X (binaryOp .FloorDiv) (rI (fun _ j => j ≠ 0 ∧ j.natAbs.log2 < 9000) fun i j => .int (i.fdiv j)) := opI fun _ _ _ _ _ _ _ hc q => floordiv_int hc.1 q (.inl (PyProof.noPylong_of_log2 hc.2))
theorem o_fdiv : Op2 X (binaryOp .FloorDiv) gFdiv := ⟨_, op_fdivA, imp_rI fun i j h => by
  unfold fdivOk at h
  simp only [Bool.and_eq_true, decide_eq_true_eq] at h
  exact h⟩
def gMod : D → D → Option D := gI (fun _ j => decide (j ≠ 0)) fun i j => .int (i.fmod j)
theorem o_mod : Op2 X (binaryOp .Mod) gMod := ⟨_, op_modN, imp_rI fun i j h => of_decide_eq_true h⟩
def powOk (i j : Int) : Bool := decide (0 ≤ j) && (decide (j ≤ 1000000) && decide (i.natAbs < 2 ^ 64))
theorem powOk_of {i j : Int} (h : powOk i j = true) : CPow i j := by
  unfold powOk at h
  simp only [Bool.and_eq_true, decide_eq_true_eq] at h
  exact ⟨h.1, h.2.1, h.2.2⟩
def gPow : D → D → Option D := gI powOk fun i j => .int (i ^ j.toNat)
theorem o_pow : Op2 X (binaryOp .Pow) gPow := ⟨_, op_pow, imp_rI fun i j h => powOk_of h⟩
def gShl : D → D → Option D := gI powOk fun i j => .int (i * 2 ^ j.toNat)
theorem o_shl : Op2 X (binaryOp .LShift) gShl := ⟨_, op_shl, imp_rI fun i j h => powOk_of h⟩
/-! ### comparisons -/
def gS (g : Str → Str → Bool) : D → D → Option D
  | .str a, .str b => some (.bool (g a b))
  | _, _ => none
theorem imp_S {K : PySem.W.Frag} {g : Str → Str → Bool} : Imp2 K (fun x y H Q => ∃ i j, x = .str i ∧ y = .str j ∧ Q (.bl (g i j)) H) (gS g) := by
  intro Z H x y d e z Q zh q1 q2 hz k
  cases q1 <;> (try (cases hz; done))
  cases q2 <;> (try (cases hz; done))
  cases hz
  exact ⟨_, _, rfl, rfl, k _ Z H (.refl zh) (.bl _)⟩
def strLt (a b : Str) : Bool := decide (a.cps.toList < b.cps.toList)
def gCmp (gi : Int → Int → Bool) (gs : Str → Str → Bool) : D → D → Option D
  | .int i, .int j => some (.bool (gi i j))
  | .str i, .str j => some (.bool (gs i j))
  | _, _ => none
theorem o_cmp {op : CmpOp} {gi : Int → Int → Bool} {gs : Str → Str → Bool} (h1 : OpR X (compareOp op) (rI0 fun i j => .bl (gi i j))) (h2 : OpR X (compareOp op) (fun x y H Q => ∃ i j, x = .str i ∧ y = .str j ∧ Q (.bl (gs i j)) H)) : Op2 X (compareOp op) (gCmp gi gs) := by
  refine Op2.or (g := gI (fun _ _ => true) fun i j => .bool (gi i j)) (g' := gS gs) ⟨_, h1, imp_rB0⟩ ⟨_, h2, imp_S⟩ fun x y z h => ?_
  cases x <;> cases y <;> first | (cases h; done) | exact .inl h | exact .inr h
def gLt : D → D → Option D := gCmp (fun i j => decide (i < j)) strLt
def gLe : D → D → Option D := gCmp (fun i j => decide (i ≤ j)) fun a b => !strLt b a
def gGt : D → D → Option D := gCmp (fun i j => decide (j < i)) fun a b => strLt b a
def gGe : D → D → Option D := gCmp (fun i j => decide (j ≤ i)) fun a b => !strLt a b
theorem o_lt : Op2 X (compareOp .Lt) gLt := o_cmp op_lt op_lt_str
theorem o_le : Op2 X (compareOp .LtE) gLe := o_cmp op_le op_le_str
theorem o_gt : Op2 X (compareOp .Gt) gGt := o_cmp op_gt op_gt_str
theorem o_ge : Op2 X (compareOp .GtE) gGe := o_cmp op_ge op_ge_str
mutual
theorem Dp.plain {K : PySem.W.Frag} {H : Hp} : ∀ (d : D) (v : V), Dp K H v d → d.plain = true
  | .none, _, _ => rfl
  | .bool _, _, _ => rfl
  | .int _, _, _ => rfl
  | .str _, _, _ => rfl
  | .list xs, _, h => by
    cases h with
    | lst _ ha =>
      simp only [PyData.plain]
      exact DpAll.plain xs _ ha
  | .tuple xs, _, h => by
    cases h with
    | tup _ ha =>
      simp only [PyData.plain]
      exact DpAll.plain xs _ ha
  | .dict _, _, h => by cases h
theorem DpAll.plain {K : PySem.W.Frag} {H : Hp} : ∀ (ds : List D) (vs : List V), DpAll K H vs ds → PyData.plainAll ds = true
  | [], _, _ => rfl
  | d :: ds, _, h => by
    cases h with
    | cons h1 h2 => simp only [PyData.plainAll, Dp.plain d _ h1, DpAll.plain ds _ h2, Bool.and_self]
end
def eqOk (d e : D) : Bool := decide (min d.depth e.depth ≤ 64)
def gEq (d e : D) : Option D := if eqOk d e = true then some (.bool (PyData.eqv d e)) else none
def gNe (d e : D) : Option D := if eqOk d e = true then some (.bool (!PyData.eqv d e)) else none
theorem op_eqP (hu : X.A.units + 64 < cLine) : OpR X (compareOp .Eq) (fun x y H Q => ∃ d e, Dp X.K H x d ∧ Dp X.K H y e ∧ min d.depth e.depth ≤ 64 ∧ Q (.bl (PyData.eqv d e)) H) := by
  intro pins s σ H x y v u Q I rx ry ⟨d, e, hd, he, hm, q⟩
  obtain ⟨as, r1⟩ := Dp.reads I d x v hd rx
  obtain ⟨bs, r2⟩ := Dp.reads I e y u he ry
  exact SeqAt.eq_plain r1 r2 (Dp.plain _ _ hd) (Dp.plain _ _ he) (by omega) ⟨.bl _, H, I, rfl, q⟩
theorem op_neP (hu : X.A.units + 64 < cLine) : OpR X (compareOp .NotEq) (fun x y H Q => ∃ d e, Dp X.K H x d ∧ Dp X.K H y e ∧ min d.depth e.depth ≤ 64 ∧ Q (.bl (!PyData.eqv d e)) H) := by
  intro pins s σ H x y v u Q I rx ry ⟨d, e, hd, he, hm, q⟩
  obtain ⟨as, r1⟩ := Dp.reads I d x v hd rx
  obtain ⟨bs, r2⟩ := Dp.reads I e y u he ry
  exact SeqAt.ne_plain r1 r2 (Dp.plain _ _ hd) (Dp.plain _ _ he) (by omega) ⟨.bl _, H, I, rfl, q⟩
theorem o_eq (hu : X.A.units + 64 < cLine) : Op2 X (compareOp .Eq) gEq := ⟨_, op_eqP hu, by
  intro Z H x y d e z Q zh q1 q2 hz k
  unfold gEq eqOk at hz
  by_cases h : min d.depth e.depth ≤ 64
  · rw [if_pos (decide_eq_true h)] at hz
    cases hz
    exact ⟨d, e, Dp.mono zh _ _ q1, Dp.mono zh _ _ q2, h, k _ Z H (.refl zh) (.bl _)⟩
  · rw [if_neg (by simpa using h)] at hz; cases hz⟩
theorem o_ne (hu : X.A.units + 64 < cLine) : Op2 X (compareOp .NotEq) gNe := ⟨_, op_neP hu, by
  intro Z H x y d e z Q zh q1 q2 hz k
  unfold gNe eqOk at hz
  by_cases h : min d.depth e.depth ≤ 64
  · rw [if_pos (decide_eq_true h)] at hz
    cases hz
    exact ⟨d, e, Dp.mono zh _ _ q1, Dp.mono zh _ _ q2, h, k _ Z H (.refl zh) (.bl _)⟩
  · rw [if_neg (by simpa using h)] at hz; cases hz⟩
def isNone : D → Bool
  | .none => true
  | _ => false
def gIs (d e : D) : Option D := match e with
  | .none => some (.bool (isNone d))
  | _ => none
def gIsNot (d e : D) : Option D := match e with
  | .none => some (.bool (!isNone d))
  | _ => none
theorem isNone_of {K : PySem.W.Frag} {Z : Hp} {x : V} {d : D} (h : Dp K Z x d) : isNone d = decide (x = .non) := by
  cases h <;> simp [isNone]
theorem o_is : Op2 X (compareOp .Is) gIs := ⟨_, op_isN, by
  intro Z H x y d e z Q zh q1 q2 hz k
  cases q2 <;> (try (cases hz; done))
  cases hz
  exact ⟨rfl, k _ Z H (.refl zh) (by rw [isNone_of q1]; exact .bl _)⟩⟩
theorem o_isnot : Op2 X (compareOp .IsNot) gIsNot := ⟨_, op_notN, by
  intro Z H x y d e z Q zh q1 q2 hz k
  cases q2 <;> (try (cases hz; done))
  cases hz
  exact ⟨rfl, k _ Z H (.refl zh) (by rw [isNone_of q1]; exact .bl _)⟩⟩
def inOk (xs : List D) (d : D) : Bool := decide (min (PyData.depthAll xs) d.depth ≤ 62)
def gIn (d e : D) : Option D := match e with
  | .list xs => if inOk xs d = true then some (.bool (xs.any fun y => PyData.eqv y d)) else none
  | .tuple xs => if inOk xs d = true then some (.bool (xs.any fun y => PyData.eqv y d)) else none
  | _ => none
def gNotIn (d e : D) : Option D := match e with
  | .list xs => if inOk xs d = true then some (.bool (!xs.any fun y => PyData.eqv y d)) else none
  | .tuple xs => if inOk xs d = true then some (.bool (!xs.any fun y => PyData.eqv y d)) else none
  | _ => none
theorem op_inP (hu : X.A.units + 64 < cLine) : OpR X (compareOp .In) (fun x y H Q => ∃ d e z, Dp X.K H x d ∧ Dp X.K H y e ∧ gIn d e = some z ∧ ∀ b, z = .bool b → Q (.bl b) H) := by
  intro pins s σ H x y v u Q I rx ry ⟨d, e, z, hd, he, hz, q⟩
  obtain ⟨as, r1⟩ := Dp.reads I d x v hd rx
  obtain ⟨bs, r2⟩ := Dp.reads I e y u he ry
  unfold gIn at hz
  have pe := Dp.plain _ _ he
  have pd := Dp.plain _ _ hd
  split at hz
  · rename_i xs
    by_cases h : inOk xs d = true
    · rw [if_pos h] at hz; cases hz
      have h2 := of_decide_eq_true h
      exact SeqAt.in_list_data r2 r1 (by simpa [PyData.plain] using pe) pd (by omega) ⟨.bl _, H, I, rfl, q _ rfl⟩
    · rw [if_neg h] at hz; cases hz
  · rename_i xs
    by_cases h : inOk xs d = true
    · rw [if_pos h] at hz; cases hz
      have h2 := of_decide_eq_true h
      exact SeqAt.in_tuple_data r2 r1 (by simpa [PyData.plain] using pe) pd (by omega) ⟨.bl _, H, I, rfl, q _ rfl⟩
    · rw [if_neg h] at hz; cases hz
  · cases hz
theorem op_notInP (hu : X.A.units + 64 < cLine) : OpR X (compareOp .NotIn) (fun x y H Q => ∃ d e z, Dp X.K H x d ∧ Dp X.K H y e ∧ gNotIn d e = some z ∧ ∀ b, z = .bool b → Q (.bl b) H) := by
  intro pins s σ H x y v u Q I rx ry ⟨d, e, z, hd, he, hz, q⟩
  obtain ⟨as, r1⟩ := Dp.reads I d x v hd rx
  obtain ⟨bs, r2⟩ := Dp.reads I e y u he ry
  unfold gNotIn at hz
  have pe := Dp.plain _ _ he
  have pd := Dp.plain _ _ hd
  split at hz
  · rename_i xs
    by_cases h : inOk xs d = true
    · rw [if_pos h] at hz; cases hz
      have h2 := of_decide_eq_true h
      exact SeqAt.notIn_list_data r2 r1 (by simpa [PyData.plain] using pe) pd (by omega) ⟨.bl _, H, I, rfl, q _ rfl⟩
    · rw [if_neg h] at hz; cases hz
  · rename_i xs
    by_cases h : inOk xs d = true
    · rw [if_pos h] at hz; cases hz
      have h2 := of_decide_eq_true h
      exact SeqAt.notIn_tuple_data r2 r1 (by simpa [PyData.plain] using pe) pd (by omega) ⟨.bl _, H, I, rfl, q _ rfl⟩
    · rw [if_neg h] at hz; cases hz
  · cases hz
theorem gIn_bool {d e z : D} (h : gIn d e = some z) : ∃ b, z = .bool b := by
  unfold gIn at h
  split at h
  · split at h <;> cases h; exact ⟨_, rfl⟩
  · split at h <;> cases h; exact ⟨_, rfl⟩
  · cases h
theorem gNotIn_bool {d e z : D} (h : gNotIn d e = some z) : ∃ b, z = .bool b := by
  unfold gNotIn at h
  split at h
  · split at h <;> cases h; exact ⟨_, rfl⟩
  · split at h <;> cases h; exact ⟨_, rfl⟩
  · cases h
theorem o_in (hu : X.A.units + 64 < cLine) : Op2 X (compareOp .In) gIn := ⟨_, op_inP hu, by
  intro Z H x y d e z Q zh q1 q2 hz k
  obtain ⟨b, rfl⟩ := gIn_bool hz
  exact ⟨d, e, _, Dp.mono zh _ _ q1, Dp.mono zh _ _ q2, hz, fun c hc => by cases hc; exact k _ Z H (.refl zh) (.bl _)⟩⟩
theorem o_notin (hu : X.A.units + 64 < cLine) : Op2 X (compareOp .NotIn) gNotIn := ⟨_, op_notInP hu, by
  intro Z H x y d e z Q zh q1 q2 hz k
  obtain ⟨b, rfl⟩ := gNotIn_bool hz
  exact ⟨d, e, _, Dp.mono zh _ _ q1, Dp.mono zh _ _ q2, hz, fun c hc => by cases hc; exact k _ Z H (.refl zh) (.bl _)⟩⟩
end
end Ev
namespace Ev
open PySem PySem.Spec PyProof.Rows L2
/-! ## arguments -/
inductive AR where
  | val (d : D) | slot (i : Nat) | tmp (ds : List D)
def tmps : List V → List AR → List Addr
  | .ref p :: vs, .tmp _ :: as => p :: tmps vs as
  | _ :: vs, _ :: as => tmps vs as
  | _, _ => []
inductive ArsOk (K : PySem.W.Frag) (F Z H : Hp) (σ : L2.St) (env : En) : List V → List AR → Prop where
  | nil : ArsOk K F Z H σ env [] []
  | val {v : V} {d : D} {vs : List V} {as : List AR} : Dp K Z v d → ArsOk K F Z H σ env vs as → ArsOk K F Z H σ env (v :: vs) (.val d :: as)
  | slot {v : V} {i : Nat} {vs : List V} {as : List AR} : σ[i]? = some (some v) → ArsOk K F Z H σ env vs as → ArsOk K F Z H σ env (v :: vs) (.slot i :: as)
  | tmp {p : Addr} {us : List V} {ds : List D} {vs : List V} {as : List AR} : H p = some (.lst us) → Z p = none → F p = none → DpAll K Z us ds →
      (∀ (i : Nat) (o : Option V) (s : Sl), σ[i]? = some o → env[i]? = some s → ownA o s ≠ some p) → p ∉ tmps vs as → ArsOk K F Z H σ env vs as → ArsOk K F Z H σ env (.ref p :: vs) (.tmp ds :: as)
def tAa (K : PySem.W.Frag) (f : Fx (List AR)) : TA := fun σ H Q => ∃ F pa Z env as env', Wst K F Z H pa σ env ∧ f env = some (as, env') ∧
  ∀ vs Z' H', Gr F Z Z' → Wst K F Z' H' pa σ env' → ArsOk K F Z' H' σ env' vs as → Q vs H'
def aNil : Fx (List AR) := fun env => some ([], env)
def aVal (f : Fx D) (g : Fx (List AR)) : Fx (List AR) := fun env => (f env).bind fun p => (g p.2).map fun q => (.val p.1 :: q.1, q.2)
def isOwn : Sl → Bool
  | .own _ => true
  | .par _ => true
  | _ => false
theorem Wst.own_at {K : PySem.W.Frag} {F Z H : Hp} {pa : Nat → Option Addr} {σ : L2.St} {env : En} {i : Nat} {s : Sl} (W : Wst K F Z H pa σ env) (e : env[i]? = some s) (h : isOwn s = true) : ∃ v, σ[i]? = some (some v) := by
  obtain ⟨o, eo, so⟩ := W.get e
  cases so with
  | no => cases h
  | val => cases h
  | own => exact ⟨_, eo⟩
  | par => exact ⟨_, eo⟩
def aSlot (i : Nat) (g : Fx (List AR)) : Fx (List AR) := fun env => match env[i]? with
  | some s => if isOwn s = true then (g env).map fun q => (.slot i :: q.1, q.2) else none
  | none => none
def aTmp (f : Fx R) (g : Fx (List AR)) : Fx (List AR) := fun env => match f env with
  | some (.fresh ds, e) => (g e).map fun q => (.tmp ds :: q.1, q.2)
  | _ => none
theorem ArsOk.tmpF {K : PySem.W.Frag} {F Z H : Hp} {σ : L2.St} {env : En} : ∀ {vs : List V} {as : List AR}, ArsOk K F Z H σ env vs as → ∀ p ∈ tmps vs as, F p = none
  | _, _, .nil, p, h => by cases h
  | _, _, .val (v := v) _ t, p, h => t.tmpF p (by cases v <;> exact h)
  | _, _, .slot (v := v) _ t, p, h => t.tmpF p (by cases v <;> exact h)
  | _, _, .tmp (p := p0) _ _ f _ _ _ t, p, h => by
    rcases List.mem_cons.mp (show p ∈ p0 :: tmps _ _ from h) with rfl | h
    · exact f
    · exact t.tmpF p h
theorem ArsOk.frame {K : PySem.W.Frag} {F F1 Z H : Hp} {σ : L2.St} {env : En} (s : Same F F1) : ∀ {vs : List V} {as : List AR}, ArsOk K F1 Z H σ env vs as → ArsOk K F Z H σ env vs as
  | _, _, .nil => .nil
  | _, _, .val a t => .val a (t.frame s)
  | _, _, .slot a t => .slot a (t.frame s)
  | _, _, .tmp a b c d e f t => .tmp a b (s.free c) d e f (t.frame s)
section
variable {X : Cx} {e : Expr} {es : List Expr}
theorem s_aNil : PA X [] (tAa X.K aNil) := by
  refine PA.imp pa_nil fun σ H Q ⟨F, pa, Z, env, as, env', W, h, k⟩ => ?_
  cases h
  exact k [] Z H (.refl ..) W .nil
theorem s_aVal {f : Fx D} {g : Fx (List AR)} (h1 : PE X e (tE X.K f)) (h2 : PA X es (tAa X.K g)) (hs : starEach (e :: es) X.env = (false, eval e X.env) :: starEach es X.env) : PA X (e :: es) (tAa X.K (aVal f g)) := by
  refine PA.imp (pa_cons h1 h2 hs) fun σ H Q ⟨F, pa, Z, env, as, env', W, h, k⟩ => ?_
  unfold aVal at h
  cases e1 : f env with
  | none => rw [e1] at h; cases h
  | some p =>
    obtain ⟨d, env1⟩ := p
    rw [e1, Option.bind_some] at h
    cases e2 : g env1 with
    | none => simp only [e2] at h; cases h
    | some q =>
      obtain ⟨as', env2⟩ := q
      simp only [e2] at h
      cases h
      exact ⟨F, pa, Z, env, d, env1, W, e1, fun v Z1 H1 g1 W1 q1 => ⟨F, pa, Z1, env1, as', _, W1, e2, fun vs Z2 H2 g2 W2 q2 => k (v :: vs) Z2 H2 (g1.trans g2) W2 (.val (Dp.mono g2.zz _ _ q1) q2)⟩⟩
theorem s_aSlot {i : Nat} {g : Fx (List AR)} (h1 : PE X e (tVar i)) (h2 : PA X es (tAa X.K g)) (hs : starEach (e :: es) X.env = (false, eval e X.env) :: starEach es X.env)
    : PA X (e :: es) (tAa X.K (aSlot i g)) := by
  refine PA.imp (pa_cons h1 h2 hs) fun σ H Q ⟨F, pa, Z, env, as, env', W, h, k⟩ => ?_
  unfold aSlot at h
  cases e1 : env[i]? with
  | none => rw [e1] at h; cases h
  | some sl =>
    rw [e1] at h
    dsimp only at h
    cases e2 : isOwn sl with
    | false => rw [e2, if_neg Bool.false_ne_true] at h; cases h
    | true =>
      rw [if_pos e2] at h
      obtain ⟨v, hv⟩ := W.own_at e1 e2
      cases e3 : g env with
      | none => rw [e3] at h; cases h
      | some q =>
        rw [e3] at h
        cases h
        exact ⟨v, hv, F, pa, Z, env, q.1, q.2, W, e3, fun vs Z2 H2 g2 W2 q2 => k (v :: vs) Z2 H2 g2 W2 (.slot hv q2)⟩
theorem s_aTmp {f : Fx R} {g : Fx (List AR)} (h1 : PE X e (tR X.K f)) (h2 : PA X es (tAa X.K g)) (hs : starEach (e :: es) X.env = (false, eval e X.env) :: starEach es X.env) : PA X (e :: es) (tAa X.K (aTmp f g)) := by
  refine PA.imp (pa_cons h1 h2 hs) fun σ H Q ⟨F, pa, Z, env, as, env', W, h, k⟩ => ?_
  unfold aTmp at h
  split at h
  · rename_i ds env1 e1
    cases e2 : g env1 with
    | none => rw [e2] at h; cases h
    | some q =>
      rw [e2] at h
      cases h
      refine ⟨F, pa, Z, env, _, env1, W, e1, fun v Z1 H1 g1 W1 q1 => ?_⟩
      obtain ⟨p, us, rfl, hp, zp, fp, da, no⟩ := q1
      have sf : Same F (upd F p (.lst us)) := upd_none fp
      refine ⟨upd F p (.lst us), pa, Z1, env1, q.1, q.2, W1.frameUp hp no, e2, fun vs Z2 H2 g2 W2 q2 => ?_⟩
      have g2' : Gr F Z1 Z2 := g2.frame sf
      refine k (.ref p :: vs) Z2 H2 (g1.trans g2') (W2.frame sf) (.tmp (W2.fh p _ upd_same) ?_ fp (DpAll.mono g2.zz _ _ da) (fun i o s a1 a2 a3 => ?_) (fun hm => ?_) (q2.frame sf))
      · exact (g2.nf p (by rw [upd_same]; exact fun z => nomatch z)).trans zp
      · obtain ⟨us', b1, b2, b3⟩ := (W2.sl i o s a1 a2).at_ a3
        rw [upd_same] at b2; cases b2
      · have := q2.tmpF p hm
        rw [upd_same] at this; cases this
  · cases h
end
end Ev
namespace Ev
open PySem PySem.Spec PyProof.Rows L2
/-! ## own defs -/
def ownAdr : List V → List AV → List Addr
  | .ref a :: vs, .own _ :: as => a :: ownAdr vs as
  | _ :: vs, _ :: as => ownAdr vs as
  | _, _ => []
inductive AvOk (K : PySem.W.Frag) (F Z H : Hp) : List V → List AV → Prop where
  | nil : AvOk K F Z H [] []
  | val {v : V} {d : D} {vs : List V} {as : List AV} : Dp K Z v d → AvOk K F Z H vs as → AvOk K F Z H (v :: vs) (.val d :: as)
  | own {a : Addr} {us : List V} {ds : List D} {vs : List V} {as : List AV} : H a = some (.lst us) → F a = none → Z a = none → DpAll K Z us ds → a ∉ ownAdr vs as → AvOk K F Z H vs as → AvOk K F Z H (.ref a :: vs) (.own ds :: as)
theorem AvOk.length {K : PySem.W.Frag} {F Z H : Hp} : ∀ {vs : List V} {as : List AV}, AvOk K F Z H vs as → vs.length = as.length
  | _, _, .nil => rfl
  | _, _, .val _ t => congrArg Nat.succ t.length
  | _, _, .own _ _ _ _ _ t => congrArg Nat.succ t.length
/-- what stands at the lists handed in, behind the call -/
inductive OutOk (K : PySem.W.Frag) (Z H : Hp) : List Addr → List (List D) → Prop where
  | nil : OutOk K Z H [] []
  | cons {a : Addr} {us : List V} {ds : List D} {as : List Addr} {os : List (List D)} : H a = some (.lst us) → Z a = none → DpAll K Z us ds → OutOk K Z H as os → OutOk K Z H (a :: as) (ds :: os)
theorem OutOk.mem {K : PySem.W.Frag} {Z H : Hp} : ∀ {as : List Addr} {os : List (List D)}, OutOk K Z H as os → ∀ a ∈ as, Z a = none ∧ ∃ us, H a = some (.lst us)
  | _, _, .nil, a, h => by cases h
  | _, _, .cons (a := a0) h1 h2 _ t, a, h => by
    rcases List.mem_cons.mp h with rfl | h
    · exact ⟨h2, _, h1⟩
    · exact t.mem a h
def RtOk (K : PySem.W.Frag) (F Z H : Hp) (own : List Addr) (v : V) : R → Prop
  | .val d => Dp K Z v d
  | .fresh ds => ∃ p us, v = .ref p ∧ H p = some (.lst us) ∧ Z p = none ∧ F p = none ∧ p ∉ own ∧ DpAll K Z us ds
abbrev Fn := List AV → Option (R × List (List D))
/-- the promise of a def that answers as g does -/
def spF (K : PySem.W.Frag) (np : Nat) (g : Fn) : Sp := fun vs H Q _ => vs.length = np ∧ ∃ F Z avs r outs, Same F H ∧ Same Z H ∧ AvOk K F Z H vs avs ∧ g avs = some (r, outs) ∧
  ∀ v Z' H', Gr F Z Z' → Same F H' → Same Z' H' → OutOk K Z' H' (ownAdr vs avs) outs → RtOk K F Z' H' (ownAdr vs avs) v r → Q v H'
/-- the values handed in, as they stand at the call -/
def toAv (env : En) : List AR → Option (List AV)
  | [] => some []
  | .val d :: as => (toAv env as).map fun r => .val d :: r
  | .tmp ds :: as => (toAv env as).map fun r => .own ds :: r
  | .slot i :: as => match env[i]? with
    | some (.own ds) => (toAv env as).map fun r => .own ds :: r
    | some (.par ds) => (toAv env as).map fun r => .own ds :: r
    | _ => none
def slotsOf : List AR → List Nat
  | [] => []
  | .slot i :: as => i :: slotsOf as
  | _ :: as => slotsOf as
def putOuts : List AR → List (List D) → En → Option En
  | [], [], env => some env
  | .val _ :: as, os, env => putOuts as os env
  | .tmp _ :: as, _ :: os, env => putOuts as os env
  | .slot i :: as, o :: os, env => match env[i]? with
    | some (.own _) => putOuts as os (env.set i (.own o))
    | some (.par _) => putOuts as os (env.set i (.par o))
    | _ => none
  | _, _, _ => none
def natNodup : List Nat → Bool
  | [] => true
  | n :: ns => !ns.contains n && natNodup ns
theorem natNodup_ok : ∀ {l : List Nat}, natNodup l = true → l.Nodup
  | [], _ => .nil
  | n :: ns, h => by
    unfold natNodup at h
    simp only [Bool.and_eq_true, Bool.not_eq_true', List.contains_eq_mem, decide_eq_false_iff_not] at h
    exact List.nodup_cons.mpr ⟨h.1, natNodup_ok h.2⟩
def eCall (g : Fn) (f : Fx (List AR)) : Fx R := fun env => match f env with
  | some (as, env1) => if natNodup (slotsOf as) = true then
      match toAv env1 as with
      | some avs => match g avs with
        | some (r, outs) => (putOuts as outs env1).map fun e => (r, e)
        | none => none
      | none => none
    else none
  | none => none
section
variable {K : PySem.W.Frag} {F Z H : Hp} {pa : Nat → Option Addr} {σ : L2.St} {env : En}
/-- the frame of a call: all but the lists handed in -/
def minus (H : Hp) (l : List Addr) : Hp := fun b => if b ∈ l then none else H b
theorem minus_in {l : List Addr} {b : Addr} (h : b ∈ l) : minus H l b = none := if_pos h
theorem minus_out {l : List Addr} {b : Addr} (h : b ∉ l) : minus H l b = H b := if_neg h
theorem minus_same {l : List Addr} : Same (minus H l) H := fun b o e => by
  by_cases h : b ∈ l
  · rw [minus_in h] at e; cases e
  · rw [minus_out h] at e; exact e
/-- the lists handed in: slots' own, or temporaries -/
theorem ars_adr (W : Wst K F Z H pa σ env) : ∀ {vs : List V} {as : List AR} {avs : List AV}, ArsOk K F Z H σ env vs as → toAv env as = some avs →
    ∀ a ∈ ownAdr vs avs, (∃ i ∈ slotsOf as, ∃ s, σ[i]? = some (some (.ref a)) ∧ env[i]? = some s ∧ ownA (some (.ref a)) s = some a) ∨ a ∈ tmps vs as
  | _, _, avs, .nil, h, a, ha => by cases h; cases ha
  | _, _, avs, .val (v := v) (d := d) (vs := vs) (as := as) _ t, h, a, ha => by
    cases e : toAv env as with
    | none => simp only [toAv, e] at h; cases h
    | some r =>
      simp only [toAv, e] at h; cases h
      have ha' : a ∈ ownAdr vs r := by cases v <;> exact ha
      rcases ars_adr W t e a ha' with q | q
      · exact .inl q
      · exact .inr (by cases v <;> exact q)
  | _, _, avs, .tmp (p := p) (ds := ds) (vs := vs) (as := as) _ _ _ _ _ _ t, h, a, ha => by
    cases e : toAv env as with
    | none => simp only [toAv, e] at h; cases h
    | some r =>
      simp only [toAv, e] at h; cases h
      rcases List.mem_cons.mp (show a ∈ p :: ownAdr vs r from ha) with rfl | ha
      · exact .inr (List.mem_cons_self ..)
      · rcases ars_adr W t e a ha with q | q
        · exact .inl q
        · exact .inr (List.mem_cons_of_mem _ q)
  | _, _, avs, .slot (v := v) (i := i) (vs := vs) (as := as) hv t, h, a, ha => by
    have key : ∀ (s : Sl) (ds : List D), env[i]? = some s → (∀ b, ownA (some (.ref b)) s = some b) → (toAv env as).map (fun r => AV.own ds :: r) = some avs → ((∃ k ∈ slotsOf (.slot i :: as), ∃ s, σ[k]? = some (some (.ref a)) ∧ env[k]? = some s ∧ ownA (some (.ref a)) s = some a) ∨ a ∈ tmps vs as) := fun s ds es ow h => by
      cases e : toAv env as with
      | none => rw [e] at h; cases h
      | some r =>
        rw [e] at h; cases h
        cases v with
        | ref b =>
          rcases List.mem_cons.mp (show a ∈ b :: ownAdr vs r from ha) with rfl | ha
          · exact .inl ⟨i, List.mem_cons_self .., s, hv, es, ow _⟩
          · rcases ars_adr W t e a ha with ⟨j, hj, q⟩ | q
            · exact .inl ⟨j, List.mem_cons_of_mem _ hj, q⟩
            · exact .inr q
        | _ =>
          rcases ars_adr W t e a ha with ⟨j, hj, q⟩ | q
          · exact .inl ⟨j, List.mem_cons_of_mem _ hj, q⟩
          · exact .inr q
    have fin : (∃ k ∈ slotsOf (.slot i :: as), ∃ s, σ[k]? = some (some (.ref a)) ∧ env[k]? = some s ∧ ownA (some (.ref a)) s = some a) ∨ a ∈ tmps vs as := by
      unfold toAv at h
      split at h
      · rename_i ds es; exact key _ ds es (fun _ => rfl) h
      · rename_i ds es; exact key _ ds es (fun _ => rfl) h
      · cases h
    rcases fin with q | q
    · exact .inl q
    · exact .inr (by cases v <;> exact q)
theorem tmps_not_own : ∀ {vs : List V} {as : List AR}, ArsOk K F Z H σ env vs as → ∀ p ∈ tmps vs as, (∃ us, H p = some (.lst us)) ∧ Z p = none ∧ F p = none ∧ ∀ (i : Nat) (o : Option V) (s : Sl), σ[i]? = some o → env[i]? = some s → ownA o s ≠ some p
  | _, _, .nil, p, h => by cases h
  | _, _, .val (v := v) _ t, p, h => tmps_not_own t p (by cases v <;> exact h)
  | _, _, .slot (v := v) _ t, p, h => tmps_not_own t p (by cases v <;> exact h)
  | _, _, .tmp (p := p0) a b c d e f t, p, h => by
    rcases List.mem_cons.mp (show p ∈ p0 :: tmps _ _ from h) with rfl | h
    · exact ⟨⟨_, a⟩, b, c, e⟩
    · exact tmps_not_own t p h
theorem ars_av (W : Wst K F Z H pa σ env) (Fc : Hp) : ∀ {vs : List V} {as : List AR} {avs : List AV}, ArsOk K F Z H σ env vs as → toAv env as = some avs → (slotsOf as).Nodup → (∀ a ∈ ownAdr vs avs, Fc a = none) → AvOk K Fc Z H vs avs
  | _, _, avs, .nil, h, _, _ => by cases h; exact .nil
  | _, _, avs, .val (v := v) (d := d) (vs := vs) (as := as) q t, h, nd, hF => by
    cases e : toAv env as with
    | none => simp only [toAv, e] at h; cases h
    | some r =>
      simp only [toAv, e] at h; cases h
      exact .val q (ars_av W Fc t e nd fun a ha => hF a (by cases v <;> exact ha))
  | _, _, avs, .tmp (p := p) (ds := ds) (vs := vs) (as := as) h1 h2 h3 h4 h5 h6 t, h, nd, hF => by
    cases e : toAv env as with
    | none => simp only [toAv, e] at h; cases h
    | some r =>
      simp only [toAv, e] at h; cases h
      refine .own h1 (hF p (List.mem_cons_self ..)) h2 h4 (fun hm => ?_) (ars_av W Fc t e nd fun a ha => hF a (List.mem_cons_of_mem _ ha))
      rcases ars_adr W t e p hm with ⟨i, _, s, q1, q2, q3⟩ | q
      · exact h5 i _ s q1 q2 q3
      · exact h6 q
  | _, _, avs, .slot (v := v) (i := i) (vs := vs) (as := as) hv t, h, nd, hF => by
    have nd' := List.nodup_cons.mp (show (i :: slotsOf as).Nodup from nd)
    have key : ∀ (s : Sl) (a : Addr) (us : List V) (ds : List D), v = .ref a → env[i]? = some s → ownA (some (.ref a)) s = some a → H a = some (.lst us) → Z a = none → DpAll K Z us ds → (toAv env as).map (fun r => AV.own ds :: r) = some avs → AvOk K Fc Z H (v :: vs) avs := fun s a us ds ev es ow h1 h2 h3 h => by
      subst ev
      cases e : toAv env as with
      | none => rw [e] at h; cases h
      | some r =>
        rw [e] at h; cases h
        refine .own h1 (hF a (List.mem_cons_self ..)) h2 h3 (fun hm => ?_) (ars_av W Fc t e nd'.2 fun b hb => hF b (List.mem_cons_of_mem _ hb))
        rcases ars_adr W t e a hm with ⟨j, hj, s', q1, q2, q3⟩ | q
        · exact W.dj i j _ _ s s' a (fun z => nd'.1 (z ▸ hj)) hv es q1 q2 ow q3
        · exact (tmps_not_own t a q).2.2.2 i _ s hv es ow
    unfold toAv at h
    split at h
    · rename_i ds es
      cases W.sl i _ _ hv es with
      | own h1 h2 h3 h4 => exact key _ _ _ ds rfl es rfl h1 h3 h4 h
    · rename_i ds es
      cases W.sl i _ _ hv es with
      | par h0 h1 h2 h3 h4 => exact key _ _ _ ds rfl es rfl h1 h3 h4 h
    · cases h
/-- the slots behind a call -/
theorem put_spec {Z' H' : Hp} : ∀ {vs : List V} {as : List AR} {avs : List AV} {outs : List (List D)} {env0 env2 : En}, ArsOk K F Z H σ env vs as → toAv env as = some avs → OutOk K Z' H' (ownAdr vs avs) outs → (∀ i ∈ slotsOf as, ∃ v, σ[i]? = some (some v)) →
    (∀ i ∈ slotsOf as, ∃ a, σ[i]? = some (some (.ref a))) → putOuts as outs env0 = some env2 → env2.length = env0.length ∧ ∀ (j : Nat) (s : Sl), env2[j]? = some s → (env0[j]? = some s ∧ j ∉ slotsOf as) ∨
      ∃ a us ds s0, σ[j]? = some (some (.ref a)) ∧ env0[j]? = some s0 ∧ ((s = .own ds ∧ ∃ d0, s0 = .own d0) ∨ (s = .par ds ∧ ∃ d0, s0 = .par d0)) ∧ H' a = some (.lst us) ∧ Z' a = none ∧ DpAll K Z' us ds
  | _, _, avs, outs, env0, env2, .nil, h, ho, _, _, hp => by
    cases h
    cases ho
    cases hp
    exact ⟨rfl, fun j s e => .inl ⟨e, fun z => by cases z⟩⟩
  | _, _, avs, outs, env0, env2, .val (v := v) (vs := vs) (as := as) _ t, h, ho, hs, hr, hp => by
    cases e : toAv env as with
    | none => simp only [toAv, e] at h; cases h
    | some r =>
      simp only [toAv, e] at h; cases h
      exact put_spec (as := as) t e (by cases v <;> exact ho) hs hr (show putOuts as outs env0 = some env2 from hp)
  | _, _, avs, outs, env0, env2, .tmp (p := p) (vs := vs) (as := as) _ _ _ _ _ _ t, h, ho, hs, hr, hp => by
    cases e : toAv env as with
    | none => simp only [toAv, e] at h; cases h
    | some r =>
      simp only [toAv, e] at h; cases h
      cases (show OutOk K Z' H' (p :: ownAdr vs r) outs from ho) with
      | @cons _ _ _ _ os _ _ _ ho' => exact put_spec (as := as) t e ho' hs hr (show putOuts as os env0 = some env2 from hp)
  | _, _, avs, outs, env0, env2, .slot (v := v) (i := i) (vs := vs) (as := as) hv t, h, ho, hs, hr, hp => by
    obtain ⟨a, ha⟩ := hr i (List.mem_cons_self ..)
    rw [hv] at ha
    have ev : v = .ref a := Option.some.inj (Option.some.inj ha)
    subst ev
    have main : ∀ (ds0 : List D), (toAv env as).map (fun r => AV.own ds0 :: r) = some avs → env2.length = env0.length ∧ ∀ (j : Nat) (s : Sl), env2[j]? = some s → (env0[j]? = some s ∧ j ∉ slotsOf (.slot i :: as)) ∨
      ∃ a us ds s0, σ[j]? = some (some (.ref a)) ∧ env0[j]? = some s0 ∧ ((s = .own ds ∧ ∃ d0, s0 = .own d0) ∨ (s = .par ds ∧ ∃ d0, s0 = .par d0)) ∧ H' a = some (.lst us) ∧ Z' a = none ∧ DpAll K Z' us ds := fun ds0 h => by
      cases e : toAv env as with
      | none => rw [e] at h; cases h
      | some r =>
        rw [e] at h; cases h
        cases (show OutOk K Z' H' (a :: ownAdr vs r) outs from ho) with
        | @cons _ us o _ os h1 h2 h3 ho' =>
          have step : ∀ (s1 s1' : Sl), env0[i]? = some s1' → ((s1 = .own o ∧ ∃ d0, s1' = .own d0) ∨ (s1 = .par o ∧ ∃ d0, s1' = .par d0)) → putOuts as os (env0.set i s1) = some env2 → env2.length = env0.length ∧ ∀ (j : Nat) (s : Sl), env2[j]? = some s → (env0[j]? = some s ∧ j ∉ slotsOf (.slot i :: as)) ∨
              ∃ a us ds s0, σ[j]? = some (some (.ref a)) ∧ env0[j]? = some s0 ∧ ((s = .own ds ∧ ∃ d0, s0 = .own d0) ∨ (s = .par ds ∧ ∃ d0, s0 = .par d0)) ∧ H' a = some (.lst us) ∧ Z' a = none ∧ DpAll K Z' us ds := fun s1 s1' e1 k1 hp => by
            have hi : i < env0.length := (List.getElem?_eq_some_iff.mp e1).1
            obtain ⟨l, q⟩ := put_spec t e ho' (fun j hj => hs j (List.mem_cons_of_mem _ hj)) (fun j hj => hr j (List.mem_cons_of_mem _ hj)) hp
            refine ⟨by rw [l, List.length_set], fun j s es => ?_⟩
            rcases q j s es with ⟨q1, q2⟩ | ⟨a', us', ds', s0, q1, q2, q3, q4⟩
            · by_cases hj : i = j
              · subst hj
                rw [List.getElem?_set_self hi] at q1; cases q1
                exact .inr ⟨a, us, o, s1', hv, e1, k1, h1, h2, h3⟩
              · rw [List.getElem?_set_ne hj] at q1
                exact .inl ⟨q1, fun z => (List.mem_cons.mp (show j ∈ i :: slotsOf as from z)).elim (fun z => hj z.symm) q2⟩
            · by_cases hj : i = j
              · subst hj
                rw [List.getElem?_set_self hi] at q2; cases q2
                refine .inr ⟨a', us', ds', s1', q1, e1, ?_, q4⟩
                rcases k1 with ⟨z1, z2⟩ | ⟨z1, z2⟩
                · rcases q3 with ⟨z3, _⟩ | ⟨_, _, z4⟩
                  · exact .inl ⟨z3, z2⟩
                  · rw [z1] at z4; cases z4
                · rcases q3 with ⟨_, _, z4⟩ | ⟨z3, _⟩
                  · rw [z1] at z4; cases z4
                  · exact .inr ⟨z3, z2⟩
              · rw [List.getElem?_set_ne hj] at q2
                exact .inr ⟨a', us', ds', s0, q1, q2, q3, q4⟩
          unfold putOuts at hp
          split at hp
          · rename_i d0 e1; exact step _ _ e1 (.inl ⟨rfl, _, rfl⟩) hp
          · rename_i d0 e1; exact step _ _ e1 (.inr ⟨rfl, _, rfl⟩) hp
          · cases hp
    unfold toAv at h
    split at h
    · exact main _ h
    · exact main _ h
    · cases h
theorem slots_ref (W : Wst K F Z H pa σ env) : ∀ {vs : List V} {as : List AR} {avs : List AV}, ArsOk K F Z H σ env vs as → toAv env as = some avs → ∀ i ∈ slotsOf as, ∃ a, σ[i]? = some (some (.ref a)) ∧ a ∈ ownAdr vs avs
  | _, _, _, .nil, _, i, hi => by cases hi
  | _, _, avs, .val (v := v) (vs := vs) (as := as) _ t, h, i, hi => by
    cases e : toAv env as with
    | none => simp only [toAv, e] at h; cases h
    | some r =>
      simp only [toAv, e] at h; cases h
      obtain ⟨a, h1, h2⟩ := slots_ref W t e i hi
      exact ⟨a, h1, by cases v <;> exact h2⟩
  | _, _, avs, .tmp (p := p) (vs := vs) (as := as) _ _ _ _ _ _ t, h, i, hi => by
    cases e : toAv env as with
    | none => simp only [toAv, e] at h; cases h
    | some r =>
      simp only [toAv, e] at h; cases h
      obtain ⟨a, h1, h2⟩ := slots_ref W t e i hi
      exact ⟨a, h1, List.mem_cons_of_mem _ h2⟩
  | _, _, avs, .slot (v := v) (i := j) (vs := vs) (as := as) hv t, h, i, hi => by
    have main : ∀ (a : Addr) (ds0 : List D), v = .ref a → (toAv env as).map (fun r => AV.own ds0 :: r) = some avs → ∃ a, σ[i]? = some (some (.ref a)) ∧ a ∈ ownAdr (v :: vs) avs := fun a ds0 ev h => by
      subst ev
      cases e : toAv env as with
      | none => rw [e] at h; cases h
      | some r =>
        rw [e] at h; cases h
        rcases List.mem_cons.mp (show i ∈ j :: slotsOf as from hi) with rfl | hi
        · exact ⟨a, hv, List.mem_cons_self ..⟩
        · obtain ⟨b, h1, h2⟩ := slots_ref W t e i hi
          exact ⟨b, h1, List.mem_cons_of_mem _ h2⟩
    unfold toAv at h
    split at h
    · rename_i ds es
      cases W.sl j _ _ hv es with
      | own => exact main _ _ rfl h
    · rename_i ds es
      cases W.sl j _ _ hv es with
      | par => exact main _ _ rfl h
    · cases h
theorem ownA_kind {o : Option V} {s s0 : Sl} {a : Addr} (h : ownA o s = some a) (k : ((∃ ds, s = .own ds) ∧ ∃ d0, s0 = .own d0) ∨ ((∃ ds, s = .par ds) ∧ ∃ d0, s0 = .par d0)) : ownA o s0 = some a := by
  obtain ⟨rfl, _⟩ := ownA_iff.mp h
  rcases k with ⟨_, _, rfl⟩ | ⟨_, _, rfl⟩ <;> rfl
/-- THE STATE BEHIND A CALL -/
theorem Wst.after {Z' H' : Hp} {vs : List V} {as : List AR} {avs : List AV} {outs : List (List D)} {env2 : En} (W : Wst K F Z H pa σ env) (A : ArsOk K F Z H σ env vs as) (ha : toAv env as = some avs) (g : Gr (minus H (ownAdr vs avs)) Z Z') (f : Same (minus H (ownAdr vs avs)) H')
    (zh : Same Z' H') (o : OutOk K Z' H' (ownAdr vs avs) outs) (hp : putOuts as outs env = some env2) : Gr F Z Z' ∧ Wst K F Z' H' pa σ env2 := by
  have sr := slots_ref W A ha
  obtain ⟨hl, sp⟩ := put_spec A ha o (fun i hi => let ⟨a, h, _⟩ := sr i hi; ⟨_, h⟩) (fun i hi => let ⟨a, h, _⟩ := sr i hi; ⟨a, h⟩) hp
  have adr : ∀ a ∈ ownAdr vs avs, F a = none ∧ Z a = none := fun a h => by
    rcases ars_adr W A ha a h with ⟨i, _, s, q1, q2, q3⟩ | q
    · obtain ⟨_, _, z1, z2⟩ := (W.sl i _ s q1 q2).at_ q3
      exact ⟨z1, z2⟩
    · obtain ⟨_, z1, z2, _⟩ := tmps_not_own A a q
      exact ⟨z2, z1⟩
  have ff : Same F (minus H (ownAdr vs avs)) := fun b u e => by
    rw [minus_out fun z => by rw [(adr b z).1] at e; cases e]
    exact W.fh b u e
  have kind : ∀ {j : Nat} {o : Option V} {s : Sl} {a : Addr}, σ[j]? = some o → env2[j]? = some s → ownA o s = some a → ∃ s0, env[j]? = some s0 ∧ ownA o s0 = some a := fun {j o s a} e1 e2 e3 => by
    rcases sp j s e2 with ⟨q1, _⟩ | ⟨b, us, ds, s0, q1, q2, q3, _⟩
    · exact ⟨s, q1, e3⟩
    · refine ⟨s0, q2, ownA_kind e3 ?_⟩
      rcases q3 with ⟨z1, z2⟩ | ⟨z1, z2⟩
      · exact .inl ⟨⟨_, z1⟩, z2⟩
      · exact .inr ⟨⟨_, z1⟩, z2⟩
  refine ⟨g.frame ff, ff.trans f, zh, by rw [W.len, hl], fun i o s e1 e2 => ?_, fun i j o o' s s' a ne e1 e2 e3 e4 o1 o2 => ?_⟩
  · rcases sp i s e2 with ⟨q1, q2⟩ | ⟨a, us, ds, s0, q1, q2, q3, h1, h2, h3⟩
    · have so := W.sl i o s e1 q1
      have nin : ∀ b, ownA o s = some b → b ∉ ownAdr vs avs := fun b hb hm => by
        rcases ars_adr W A ha b hm with ⟨k, hk, s', r1, r2, r3⟩ | q
        · exact W.dj i k o _ s s' b (fun z => q2 (z ▸ hk)) e1 q1 r1 r2 hb r3
        · exact (tmps_not_own A b q).2.2.2 i o s e1 q1 hb
      refine so.mono g.zz (fun b u hb hu => f b u ?_) fun b hb => g.nf b ?_
      · rw [minus_out (nin b hb)]; exact hu
      · obtain ⟨us, h1, _⟩ := so.at_ hb
        rw [minus_out (nin b hb), h1]
        exact fun z => nomatch z
    · rw [q1] at e1; cases e1
      have so := W.sl i _ s0 q1 q2
      rcases q3 with ⟨rfl, d0, rfl⟩ | ⟨rfl, d0, rfl⟩
      · cases so with
        | own b1 b2 b3 b4 => exact .own h1 b2 h2 h3
      · cases so with
        | par b0 b1 b2 b3 b4 => exact .par b0 h1 b2 h2 h3
  · obtain ⟨s0, r1, r2⟩ := kind e1 e2 o1
    obtain ⟨s0', r3, r4⟩ := kind e3 e4 o2
    exact W.dj i j o o' s0 s0' a ne e1 r1 e3 r3 r2 r4
end
/-- the reading of a call -/
theorem tCall_of {K : PySem.W.Frag} {np : Nat} {g : Fn} {f : Fx (List AR)} {E : XK} {σ : L2.St} {H : Hp} {Q : VK} (hl : ∀ env as env', f env = some (as, env') → as.length = np) (h : tR K (eCall g f) σ H Q) : tCall (spF K np g) [] E (tAa K f) σ H Q := by
  obtain ⟨F, pa, Z, env, r, env', W, e, k⟩ := h
  unfold eCall at e
  split at e
  · rename_i as env1 e1
    by_cases nd : natNodup (slotsOf as) = true
    · rw [if_pos nd] at e
      split at e
      · rename_i avs e2
        split at e
        · rename_i r' outs e3
          cases e4 : putOuts as outs env1 with
          | none => rw [e4] at e; cases e
          | some env2 =>
            rw [e4] at e
            cases e
            refine ⟨F, pa, Z, env, as, env1, W, e1, fun vs Z1 H1 g1 W1 A => ?_⟩
            show spF K np g (vs ++ []) H1 Q E
            rw [List.append_nil]
            have av := ars_av W1 (minus H1 (ownAdr vs avs)) A e2 (natNodup_ok nd) fun a ha => minus_in ha
            have vl : vs.length = np := by
              rw [← hl _ _ _ e1]
              have : ∀ {vs : List V} {as : List AR}, ArsOk K F Z1 H1 σ env1 vs as → vs.length = as.length := by
                intro vs as A
                induction A with
                | nil => rfl
                | val _ _ ih => exact congrArg Nat.succ ih
                | slot _ _ ih => exact congrArg Nat.succ ih
                | tmp _ _ _ _ _ _ _ ih => exact congrArg Nat.succ ih
              exact this A
            refine ⟨vl, minus H1 (ownAdr vs avs), Z1, avs, r, outs, minus_same, W1.zh, av, e3, fun v Z2 H2 g2 f2 z2 o2 rt => ?_⟩
            obtain ⟨g3, W3⟩ := W1.after A e2 g2 f2 z2 o2 e4
            refine k v Z2 H2 (g1.trans g3) W3 ?_
            cases r with
            | val d => exact rt
            | fresh ds =>
              obtain ⟨p, us, rfl, h1, h2, h3, h4, h5⟩ := rt
              rw [minus_out h4] at h3
              refine ⟨p, us, rfl, h1, h2, W1.fh.free h3, h5, fun i o s q1 q2 q3 => ?_⟩
              have so := W3.sl i o s q1 q2
              -- an own slot's list stood before the call
              have sr := slots_ref W1 A e2
              obtain ⟨hl, sp⟩ := put_spec A e2 o2 (fun i hi => let ⟨a, h, _⟩ := sr i hi; ⟨_, h⟩) (fun i hi => let ⟨a, h, _⟩ := sr i hi; ⟨a, h⟩) e4
              have : ∃ s0, env1[i]? = some s0 ∧ ownA o s0 = some p := by
                rcases sp i s q2 with ⟨w1, _⟩ | ⟨b, us', ds', s0, w1, w2, w3, _⟩
                · exact ⟨s, w1, q3⟩
                · refine ⟨s0, w2, ownA_kind q3 ?_⟩
                  rcases w3 with ⟨z1, z2⟩ | ⟨z1, z2⟩
                  · exact .inl ⟨⟨_, z1⟩, z2⟩
                  · exact .inr ⟨⟨_, z1⟩, z2⟩
              obtain ⟨s0, w1, w2⟩ := this
              obtain ⟨us0, w3, _⟩ := (W1.sl i o s0 q1 w1).at_ w2
              rw [h3] at w3; cases w3
        · cases e
      · cases e
    · rw [if_neg nd] at e; cases e
  · cases e
end Ev
namespace Ev
open PySem PySem.Spec PyProof.Rows L2
/-! ## statements -/
inductive Fl where
  | nx | bk | ct | rt (r : R)
def FlOk (K : PySem.W.Frag) (F : Hp) (pa : Nat → Option Addr) (Z : Hp) (D : Ends) (env' : En) : Fl → Prop
  | .nx => ∀ σ' Z' H', Gr F Z Z' → Wst K F Z' H' pa σ' env' → D.nx σ' H'
  | .bk => ∀ σ' Z' H', Gr F Z Z' → Wst K F Z' H' pa σ' env' → D.bk σ' H'
  | .ct => ∀ σ' Z' H', Gr F Z Z' → Wst K F Z' H' pa σ' env' → D.ct σ' H'
  | .rt r => ∀ v σ' Z' H', Gr F Z Z' → Wst K F Z' H' pa σ' env' → RkOk K F Z' H' σ' env' v r → D.rt v H'
theorem FlOk.gr {K : PySem.W.Frag} {F : Hp} {pa : Nat → Option Addr} {Z Z1 : Hp} {D : Ends} {env' : En} (g : Gr F Z Z1) : ∀ {fl : Fl}, FlOk K F pa Z D env' fl → FlOk K F pa Z1 D env' fl
  | .nx, h => fun σ' Z' H' g1 W => h σ' Z' H' (g.trans g1) W
  | .bk, h => fun σ' Z' H' g1 W => h σ' Z' H' (g.trans g1) W
  | .ct, h => fun σ' Z' H' g1 W => h σ' Z' H' (g.trans g1) W
  | .rt r, h => fun v σ' Z' H' g1 W q => h v σ' Z' H' (g.trans g1) W q
def tS (K : PySem.W.Frag) (f : Fx Fl) : TS := fun D σ H => ∃ F pa Z env fl env', Wst K F Z H pa σ env ∧ f env = some (fl, env') ∧ FlOk K F pa Z D env' fl
section
variable {X : Cx} {st : Stmt} {e : Expr} {pos : Pos}
def sSkip : Fx Fl := fun env => some (.nx, env)
def sStuck : Fx Fl := fun _ => none
theorem s_skip (h : PS X st tNext) : PS X st (tS X.K sSkip) := by
  refine PS.imp h fun D σ H ⟨F, pa, Z, env, fl, env', W, e, k⟩ => ?_
  cases e
  exact k σ Z H (.refl ..) W
theorem s_stuck : PS X st (tS X.K sStuck) := ⟨fun _ _ _ _ _ _ ⟨_, _, _, _, _, _, _, e, _⟩ => nomatch e⟩
def sBreak : Fx Fl := fun env => some (.bk, env)
theorem s_break : PS X (.Break pos) (tS X.K sBreak) := by
  refine PS.imp ps_break fun D σ H ⟨F, pa, Z, env, fl, env', W, e, k⟩ => ?_
  cases e
  exact k σ Z H (.refl ..) W
def sCont : Fx Fl := fun env => some (.ct, env)
theorem s_cont : PS X (.Continue pos) (tS X.K sCont) := by
  refine PS.imp ps_continue fun D σ H ⟨F, pa, Z, env, fl, env', W, e, k⟩ => ?_
  cases e
  exact k σ Z H (.refl ..) W
def sSeq (f g : Fx Fl) : Fx Fl := fun env => match f env with
  | some (.nx, e) => g e
  | r => r
theorem s_nil : PSs X [] (tS X.K sSkip) := by
  refine PSs.imp pss_nil fun D σ H ⟨F, pa, Z, env, fl, env', W, e, k⟩ => ?_
  cases e
  exact k σ Z H (.refl ..) W
theorem s_one {f : Fx Fl} (h : PS X st (tS X.K f)) : PSs X [st] (tS X.K f) := pss_one h
theorem s_cons {f g : Fx Fl} {rest : List Stmt} (h1 : PS X st (tS X.K f)) (h2 : PSs X rest (tS X.K g)) : PSs X (st :: rest) (tS X.K (sSeq f g)) := by
  refine PSs.imp (pss_cons h1 h2) fun D σ H ⟨F, pa, Z, env, fl, env', W, e, k⟩ => ?_
  unfold sSeq at e
  split at e
  · rename_i e1 h1
    exact ⟨F, pa, Z, env, .nx, e1, W, h1, fun σ' Z' H' g1 W1 => ⟨F, pa, Z', e1, fl, env', W1, e, k.gr g1⟩⟩
  · rename_i r hn
    refine ⟨F, pa, Z, env, fl, env', W, e, ?_⟩
    cases fl with
    | nx => exact absurd e (hn _)
    | bk => exact k
    | ct => exact k
    | rt r => exact k
def sIf (c : Fx Bool) (f g : Fx Fl) : Fx Fl := fun env => match c env with
  | some (true, e) => f e
  | some (false, e) => g e
  | none => none
theorem s_if {c : Expr} {a b : List Stmt} {fc : Fx Bool} {f g : Fx Fl} (hc : PT X c (tT X.K fc)) (ha : PSs X a (tS X.K f)) (hb : PSs X b (tS X.K g)) : PS X (.If c a b pos) (tS X.K (sIf fc f g)) := by
  refine PS.imp (ps_if hc ha hb) fun D σ H ⟨F, pa, Z, env, fl, env', W, e, k⟩ => ?_
  unfold sIf at e
  split at e
  · rename_i e1 h1
    exact ⟨F, pa, Z, env, _, e1, W, h1, fun Z' H' g1 W1 => iteT ⟨F, pa, Z', e1, fl, env', W1, e, k.gr g1⟩⟩
  · rename_i e1 h1
    exact ⟨F, pa, Z, env, _, e1, W, h1, fun Z' H' g1 W1 => iteF ⟨F, pa, Z', e1, fl, env', W1, e, k.gr g1⟩⟩
  · cases e
def sExpr (f : Fx R) : Fx Fl := fun env => (f env).map fun p => (.nx, p.2)
theorem s_expr {f : Fx R} (h : PE X e (tR X.K f)) (hs : swapsWith e none pos.line X.env = pure false) : PS X (.Expr e pos) (tS X.K (sExpr f)) := by
  refine PS.imp (ps_expr h hs) fun D σ H ⟨F, pa, Z, env, fl, env', W, e, k⟩ => ?_
  unfold sExpr at e
  cases h1 : f env with
  | none => rw [h1] at e; cases e
  | some p =>
    rw [h1] at e
    cases e
    exact ⟨F, pa, Z, env, p.1, p.2, W, h1, fun v Z' H' g1 W1 _ => k σ Z' H' g1 W1⟩
def sRet (f : Fx R) : Fx Fl := fun env => (f env).map fun p => (.rt p.1, p.2)
theorem s_ret {f : Fx R} (h : PE X e (tR X.K f)) : PS X (.Return (some e) pos) (tS X.K (sRet f)) := by
  refine PS.imp (ps_ret h) fun D σ H ⟨F, pa, Z, env, fl, env', W, e, k⟩ => ?_
  unfold sRet at e
  cases h1 : f env with
  | none => rw [h1] at e; cases e
  | some p =>
    rw [h1] at e
    cases e
    exact ⟨F, pa, Z, env, p.1, p.2, W, h1, fun v Z' H' g1 W1 q => k v σ Z' H' g1 W1 q⟩
def sRetN : Fx Fl := fun env => some (.rt (.val .none), env)
theorem s_retN : PS X (.Return none pos) (tS X.K sRetN) := by
  refine PS.imp ps_retN fun D σ H ⟨F, pa, Z, env, fl, env', W, e, k⟩ => ?_
  cases e
  exact k .non σ Z H (.refl ..) W .non
/-- a slot's own list moved out -/
def eMove (i : Nat) : Fx R := fun env => match env[i]? with
  | some (.val d) => some (.val d, env)
  | some (.own ds) => some (.fresh ds, env.set i .no)
  | _ => none
theorem Wst.move {K : PySem.W.Frag} {F Z H : Hp} {pa : Nat → Option Addr} {σ : L2.St} {env : En} {i : Nat} (W : Wst K F Z H pa σ env) : Wst K F Z H pa σ (env.set i .no) := by
  have key : ∀ {j : Nat} {o : Option V} {s : Sl}, σ[j]? = some o → (env.set i .no)[j]? = some s → (j = i ∧ s = .no) ∨ (j ≠ i ∧ env[j]? = some s) := fun {j o s} e1 e2 => by
    by_cases hj : i = j
    · subst hj
      by_cases hl : i < env.length
      · rw [List.getElem?_set_self hl] at e2; cases e2; exact .inl ⟨rfl, rfl⟩
      · rw [List.getElem?_eq_none (by simpa using hl)] at e2; cases e2
    · rw [List.getElem?_set_ne hj] at e2; exact .inr ⟨Ne.symm hj, e2⟩
  refine ⟨W.fh, W.zh, by simp [W.len], fun j o s e1 e2 => ?_, fun j k o o' s s' a ne e1 e2 e3 e4 o1 o2 => ?_⟩
  · rcases key e1 e2 with ⟨_, rfl⟩ | ⟨_, q⟩
    · exact .no _
    · exact W.sl j o s e1 q
  · rcases key e1 e2 with ⟨_, rfl⟩ | ⟨_, q⟩
    · obtain ⟨_, ⟨_, z⟩ | ⟨_, z⟩⟩ := ownA_iff.mp o1 <;> cases z
    · rcases key e3 e4 with ⟨_, rfl⟩ | ⟨_, q'⟩
      · obtain ⟨_, ⟨_, z⟩ | ⟨_, z⟩⟩ := ownA_iff.mp o2 <;> cases z
      · exact W.dj j k o o' s s' a ne e1 q e3 q' o1 o2
theorem s_move {i : Nat} {x : Str} (h : PE X (.Name x pos) (tVar i)) : PE X (.Name x pos) (tR X.K (eMove i)) := by
  refine PE.imp h fun σ H Q ⟨F, pa, Z, env, d, env', W, e, k⟩ => ?_
  unfold eMove at e
  cases he : env[i]? with
  | none => rw [he] at e; cases e
  | some s =>
    rw [he] at e
    obtain ⟨o, eo, so⟩ := W.get he
    cases so with
    | no => cases e
    | par => cases e
    | val dp => cases e; exact ⟨_, eo, k _ _ _ (.refl ..) W dp⟩
    | @own a us ds h1 h2 h3 h4 =>
      cases e
      refine ⟨_, eo, k _ _ _ (.refl ..) W.move ⟨a, us, rfl, h1, h3, h2, h4, fun j o' s' e1 e2 e3 => ?_⟩⟩
      by_cases hj : i = j
      · subst hj
        have hi : i < env.length := (List.getElem?_eq_some_iff.mp he).1
        rw [List.getElem?_set_self hi] at e2; cases e2
        obtain ⟨_, ⟨_, z⟩ | ⟨_, z⟩⟩ := ownA_iff.mp e3 <;> cases z
      · rw [List.getElem?_set_ne hj] at e2
        exact W.dj i j _ o' _ s' a hj eo he e1 e2 rfl e3
/-! ### stores -/
def isPar : Sl → Bool
  | .par _ => true
  | _ => false
def setR (i : Nat) (r : R) (env : En) : Option En := match env[i]? with
  | some s => if isPar s = true then none else some (env.set i (match r with | .val d => .val d | .fresh ds => .own ds))
  | none => none
theorem Wst.setOwn {K : PySem.W.Frag} {F Z H : Hp} {pa : Nat → Option Addr} {σ : L2.St} {env : En} {i : Nat} {p : Addr} {us : List V} {ds : List D} (W : Wst K F Z H pa σ env) (h1 : H p = some (.lst us)) (h2 : Z p = none) (h3 : F p = none) (h4 : DpAll K Z us ds)
    (h5 : ∀ (i : Nat) (o : Option V) (s : Sl), σ[i]? = some o → env[i]? = some s → ownA o s ≠ some p) : Wst K F Z H pa (σ.set i (some (.ref p))) (env.set i (.own ds)) := by
  have key : ∀ {j : Nat} {o : Option V} {s : Sl}, (σ.set i (some (.ref p)))[j]? = some o → (env.set i (.own ds))[j]? = some s → (j = i ∧ o = some (.ref p) ∧ s = .own ds) ∨ (j ≠ i ∧ σ[j]? = some o ∧ env[j]? = some s) := fun {j o s} e1 e2 => by
    by_cases hj : i = j
    · subst hj
      by_cases hl : i < env.length
      · rw [List.getElem?_set_self hl] at e2; cases e2
        rw [List.getElem?_set_self (by rw [W.len]; exact hl)] at e1; cases e1
        exact .inl ⟨rfl, rfl, rfl⟩
      · rw [List.getElem?_eq_none (by simpa using hl)] at e2; cases e2
    · rw [List.getElem?_set_ne hj] at e1 e2; exact .inr ⟨Ne.symm hj, e1, e2⟩
  refine ⟨W.fh, W.zh, by simp [W.len], fun j o s e1 e2 => ?_, fun j k o o' s s' a ne e1 e2 e3 e4 o1 o2 => ?_⟩
  · rcases key e1 e2 with ⟨_, rfl, rfl⟩ | ⟨_, q1, q2⟩
    · exact .own h1 h3 h2 h4
    · exact W.sl j o s q1 q2
  · rcases key e1 e2 with ⟨rfl, rfl, rfl⟩ | ⟨_, q1, q2⟩
    · rcases key e3 e4 with ⟨rfl, _, _⟩ | ⟨_, q3, q4⟩
      · exact ne rfl
      · cases o1
        exact h5 k o' s' q3 q4 o2
    · rcases key e3 e4 with ⟨rfl, rfl, rfl⟩ | ⟨_, q3, q4⟩
      · cases o2
        exact h5 j o s q1 q2 o1
      · exact W.dj j k o o' s s' a ne q1 q2 q3 q4 o1 o2
theorem Wst.setR {K : PySem.W.Frag} {F Z H : Hp} {pa : Nat → Option Addr} {σ : L2.St} {env env' : En} {i : Nat} {v : V} {r : R} (W : Wst K F Z H pa σ env) (q : RkOk K F Z H σ env v r) (e : Ev.setR i r env = some env') : Wst K F Z H pa (σ.set i (some v)) env' := by
  unfold Ev.setR at e
  split at e
  · rename_i s hs
    cases hp : isPar s with
    | true => rw [hp, if_pos rfl] at e; cases e
    | false =>
      rw [hp, if_neg Bool.false_ne_true] at e
      cases r with
      | val d => cases e; exact W.set q
      | fresh ds =>
        cases e
        obtain ⟨p, us, rfl, h1, h2, h3, h4, h5⟩ := q
        exact W.setOwn h1 h2 h3 h4 h5
  · cases e
def sSet (i : Nat) (f : Fx R) : Fx Fl := fun env => (f env).bind fun p => (setR i p.1 p.2).map fun e => (.nx, e)
theorem s_setG {st : Stmt} {i : Nat} {f : Fx R} {te : TE} (h : PS X st (tAsg te (L2.gName i))) (hi : ∀ σ H Q, tR X.K f σ H Q → te σ H Q) : PS X st (tS X.K (sSet i f)) := by
  refine PS.imp h fun D σ H ⟨F, pa, Z, env, fl, env', W, e, k⟩ => ?_
  unfold sSet at e
  cases h1 : f env with
  | none => rw [h1] at e; cases e
  | some p =>
    rw [h1, Option.bind_some] at e
    cases h2 : Ev.setR i p.1 p.2 with
    | none => rw [h2] at e; cases e
    | some env2 =>
      rw [h2] at e
      cases e
      exact hi σ H _ ⟨F, pa, Z, env, p.1, p.2, W, h1, fun v Z' H' g1 W1 q => k _ Z' H' g1 (W1.setR q h2)⟩
/-! ### targets -/
abbrev Gf := D → En → Option En
/-- the target that stores at the slots sl alone -/
def tG (K : PySem.W.Frag) (sl : List Nat) (g : Gf) : TG := fun v σ H Q => ∃ F pa Z env d env', Wst K F Z H pa σ env ∧ Dp K Z v d ∧ g d env = some env' ∧
  ∀ σ' Z' H', Gr F Z Z' → Wst K F Z' H' pa σ' env' → σ'.length = σ.length → (∀ j, j ∉ sl → σ'[j]? = σ[j]?) → Q σ' H'
theorem PG.imp {e : Expr} {t t' : TG} (h : PG X e t) (m : ∀ v σ H Q, t' v σ H Q → t v σ H Q) : PG X e t' := ⟨fun pins s σ H v u Q I r q => h.run pins s σ H v u Q I r (m v σ H Q q)⟩
theorem PGs.imp {e : List Expr} {t t' : TGs} (h : PGs X e t) (m : ∀ v σ H Q, t' v σ H Q → t v σ H Q) : PGs X e t' := ⟨fun pins s σ H v u Q I r q => h.run pins s σ H v u Q I r (m v σ H Q q)⟩
def gN (i : Nat) : Gf := fun d env => setR i (.val d) env
theorem s_gn {i : Nat} {x : Str} (h : PG X (.Name x pos) (L2.gName i)) : PG X (.Name x pos) (tG X.K [i] (gN i)) := by
  refine PG.imp h fun v σ H Q ⟨F, pa, Z, env, d, env', W, q, e, k⟩ => ?_
  refine k _ Z H (.refl ..) (W.setR (r := .val d) q e) (by simp) fun j hj => ?_
  rw [List.getElem?_set_ne (fun z => hj (by simp [z]))]
def tGs (K : PySem.W.Frag) (sl : List Nat) (g : List D → En → Option En) : TGs := fun vs σ H Q => ∃ F pa Z env ds env', Wst K F Z H pa σ env ∧ DpAll K Z vs ds ∧ g ds env = some env' ∧
  ∀ σ' Z' H', Gr F Z Z' → Wst K F Z' H' pa σ' env' → σ'.length = σ.length → (∀ j, j ∉ sl → σ'[j]? = σ[j]?) → Q σ' H'
def gsNil : List D → En → Option En
  | [], env => some env
  | _, _ => none
def gsCons (g : Gf) (h : List D → En → Option En) : List D → En → Option En
  | d :: ds, env => (g d env).bind (h ds)
  | _, _ => none
theorem s_gsNil : PGs X [] (tGs X.K [] gsNil) := by
  refine PGs.imp pgs_nil fun vs σ H Q ⟨F, pa, Z, env, ds, env', W, q, e, k⟩ => ?_
  cases ds with
  | nil =>
    cases e
    cases q
    exact ⟨rfl, k σ Z H (.refl ..) W rfl fun _ _ => rfl⟩
  | cons => cases e
theorem s_gsCons {e : Expr} {es : List Expr} {sl sl' : List Nat} {g : Gf} {h : List D → En → Option En} (h1 : PG X e (tG X.K sl g)) (h2 : PGs X es (tGs X.K sl' h)) (hs : (assignEach (e :: es) X.env).map (·.2) = assign e X.env :: (assignEach es X.env).map (·.2)) :
    PGs X (e :: es) (tGs X.K (sl ++ sl') (gsCons g h)) := by
  refine PGs.imp (pgs_cons h1 h2 hs) fun vs σ H Q ⟨F, pa, Z, env, ds, env', W, q, e, k⟩ => ?_
  cases ds with
  | nil => cases e
  | cons d ds =>
    cases q with
    | @cons v vs _ _ q1 q2 =>
      have e' : (g d env).bind (h ds) = some env' := e
      cases e1 : g d env with
      | none => rw [e1] at e'; cases e'
      | some env1 =>
        rw [e1, Option.bind_some] at e'
        exact ⟨v, vs, rfl, F, pa, Z, env, d, env1, W, q1, e1, fun σ' Z' H' g1 W1 l1 k1 => ⟨F, pa, Z', env1, ds, env', W1, DpAll.mono g1.zz _ _ q2, e', fun σ2 Z2 H2 g2 W2 l2 k2 =>
          k σ2 Z2 H2 (g1.trans g2) W2 (l2.trans l1) fun j hj => by
            rw [List.mem_append, not_or] at hj
            rw [k2 j hj.2, k1 j hj.1]⟩⟩
def gTup (n : Nat) (g : List D → En → Option En) : Gf := fun d env => match d with
  | .tuple ds => if ds.length = n then g ds env else none
  | _ => none
theorem s_gTup {es : List Expr} {k n : Nat} {sl : List Nat} {g : List D → En → Option En} (hc : X.calm = true) (h : PGs X es (tGs X.K sl g)) (hn : (assignEach es X.env).length = n) (hst : (assignEach es X.env).findIdx? (·.1) = none) :
    PG X (.Tuple es k pos) (tG X.K sl (gTup n g)) := by
  refine PG.imp (pg_tup hc h hn hst) fun v σ H Q ⟨F, pa, Z, env, d, env', W, q, e, k⟩ => ?_
  cases q with
  | @tup a us ds hs ha =>
    have e' : (if ds.length = n then g ds env else none) = some env' := e
    by_cases hl : ds.length = n
    · rw [if_pos hl] at e'
      exact ⟨a, us, rfl, Same.sqT W.zh hs, by rw [da_length ha, hl], F, pa, Z, env, ds, env', W, ha, e', k⟩
    · rw [if_neg hl] at e'; cases e'
  | _ => cases e
/-- a store to an item of a slot's own list -/
def setAt (i : Nat) (k : Int) (d : D) (env : En) : Option En := match env[i]? with
  | some (.own ds) => (ixN ds.length k).map fun j => env.set i (.own (ds.set j d))
  | some (.par ds) => (ixN ds.length k).map fun j => env.set i (.par (ds.set j d))
  | _ => none
/-- the list at an own slot is changed -/
theorem Wst.chg {K : PySem.W.Frag} {F Z H : Hp} {pa : Nat → Option Addr} {σ : L2.St} {env : En} {i : Nat} {a : Addr} {us : List V} {ds : List D} {s s' : Sl} (W : Wst K F Z H pa σ env) (e1 : σ[i]? = some (some (.ref a))) (e2 : env[i]? = some s)
    (hs : (s' = .own ds ∧ ∃ d0, s = .own d0) ∨ (s' = .par ds ∧ ∃ d0, s = .par d0)) (q : DpAll K Z us ds) : Wst K F Z (upd H a (.lst us)) pa σ (env.set i s') := by
  have hi : i < env.length := (List.getElem?_eq_some_iff.mp e2).1
  have ow : ownA (some (.ref a)) s = some a := by rcases hs with ⟨_, _, rfl⟩ | ⟨_, _, rfl⟩ <;> rfl
  obtain ⟨us0, b1, b2, b3⟩ := (W.sl i _ s e1 e2).at_ ow
  have key : ∀ {j : Nat} {s1 : Sl}, (env.set i s')[j]? = some s1 → (j = i ∧ s1 = s') ∨ (j ≠ i ∧ env[j]? = some s1) := fun {j s1} e => by
    by_cases hj : i = j
    · subst hj
      rw [List.getElem?_set_self hi] at e; cases e; exact .inl ⟨rfl, rfl⟩
    · rw [List.getElem?_set_ne hj] at e; exact .inr ⟨Ne.symm hj, e⟩
  have ow' : ∀ o b, ownA o s' = some b → ownA o s = some b := fun o b h => ownA_kind h (by
    rcases hs with ⟨h1, h2⟩ | ⟨h1, h2⟩
    · exact .inl ⟨⟨_, h1⟩, h2⟩
    · exact .inr ⟨⟨_, h1⟩, h2⟩)
  have up : ∀ b o, Same b H → b a = none → Same b (upd H a o) := fun b o f n c u e => by
    rw [upd_ne (fun z => by subst z; rw [n] at e; cases e)]; exact f c u e
  refine ⟨up F _ W.fh b2, up Z _ W.zh b3, by simp [W.len], fun j o s1 q1 q2 => ?_, fun j k o o' s1 s1' b ne q1 q2 q3 q4 o1 o2 => ?_⟩
  · rcases key q2 with ⟨rfl, rfl⟩ | ⟨hj, q2⟩
    · rw [e1] at q1; cases q1
      rcases hs with ⟨rfl, d0, rfl⟩ | ⟨rfl, d0, rfl⟩
      · exact .own upd_same b2 b3 q
      · cases W.sl j _ _ e1 e2 with
        | par z0 z1 z2 z3 z4 => exact .par z0 upd_same b2 b3 q
    · refine (W.sl j o s1 q1 q2).mono (Same.refl _) (fun b u hb hu => ?_) fun _ _ => rfl
      rw [upd_ne (fun z => by subst z; exact W.dj j i o _ s1 s _ hj q1 q2 e1 e2 hb ow)]
      exact hu
  · have back : ∀ {j : Nat} {o : Option V} {s1 : Sl}, σ[j]? = some o → (env.set i s')[j]? = some s1 → ownA o s1 = some b → ∃ s0, env[j]? = some s0 ∧ ownA o s0 = some b := fun {j o s1} r1 r2 r3 => by
      rcases key r2 with ⟨rfl, rfl⟩ | ⟨_, r2⟩
      · exact ⟨s, e2, ow' _ _ r3⟩
      · exact ⟨s1, r2, r3⟩
    obtain ⟨t1, t2, t3⟩ := back q1 q2 o1
    obtain ⟨t1', t2', t3'⟩ := back q3 q4 o2
    exact W.dj j k o o' t1 t1' b ne q1 t2 q3 t2' t3 t3'
def gIx (i : Nat) (f : Fx D) : Gf := fun d env => match env[i]? with
  | some s => if isOwn s = true then (match f env with
      | some (.int k, e) => setAt i k d e
      | _ => none) else none
  | none => none
theorem Wst.own_ref {K : PySem.W.Frag} {F Z H : Hp} {pa : Nat → Option Addr} {σ : L2.St} {env : En} {i : Nat} {s : Sl} (W : Wst K F Z H pa σ env) (e : env[i]? = some s) (h : isOwn s = true) :
    ∃ a us ds, σ[i]? = some (some (.ref a)) ∧ (s = .own ds ∨ s = .par ds) ∧ H a = some (.lst us) ∧ DpAll K Z us ds := by
  obtain ⟨o, eo, so⟩ := W.get e
  cases so with
  | no => cases h
  | val => cases h
  | own h1 _ _ h4 => exact ⟨_, _, _, eo, .inl rfl, h1, h4⟩
  | par _ h1 _ _ h4 => exact ⟨_, _, _, eo, .inr rfl, h1, h4⟩
theorem s_gIx {i : Nat} {x : Str} {ie : Expr} {f : Fx D} {np : Pos} (ho : PE X (.Name x np) (tVar i)) (hi : PE X ie (tE X.K f))
    (ha : ∀ v, assign (.Subscript (.Name x np) ie pos) X.env v = (do
      let ov ← holding [v] (eval (.Name x np) X.env)
      let iv ← holding [v, ov] (eval ie X.env)
      standAt pos
      holding [v, ov, iv] (setItem ov iv v)
      release [v, ov, iv] [])) : PG X (.Subscript (.Name x np) ie pos) (tG X.K [] (gIx i f)) := by
  refine PG.imp (pg_sub ho hi set_list ha) fun v σ H Q ⟨F, pa, Z, env, d, env', W, q, e, k⟩ => ?_
  unfold gIx at e
  cases e0 : env[i]? with
  | none => rw [e0] at e; cases e
  | some s0 =>
    rw [e0] at e
    dsimp only at e
    cases ow : isOwn s0 with
    | false => rw [ow, if_neg Bool.false_ne_true] at e; cases e
    | true =>
      rw [ow, if_pos rfl] at e
      obtain ⟨a, us0, ds0, ea, _⟩ := W.own_ref e0 ow
      split at e
      · rename_i n env1 h1
        refine ⟨_, ea, F, pa, Z, env, _, env1, W, h1, fun iv Z1 H1 g1 W1 q1 => ?_⟩
        cases q1
        have fin : ∀ (s : Sl) (us : List V) (ds : List D) (s' : List D → Sl), env1[i]? = some s → ((s = .own ds ∧ s' = .own) ∨ (s = .par ds ∧ s' = .par)) → H1 a = some (.lst us) → DpAll X.K Z1 us ds → (ixN ds.length n).map (fun j => env1.set i (s' (ds.set j d))) = some env' →
            rSetL (.ref a) (.int n) v H1 fun H3 => Q σ H3 := fun s us ds s' es hs hH da e => by
          cases hj : ixN ds.length n with
          | none => rw [hj] at e; cases e
          | some j =>
            rw [hj] at e
            cases e
            refine ⟨a, us, n, j, rfl, rfl, hH, by rw [da_length da]; exact hj, ?_⟩
            refine k σ Z1 _ g1 (W1.chg ea es ?_ (da_set (Dp.mono g1.zz _ _ q) j da)) rfl fun _ _ => rfl
            rcases hs with ⟨h1, h2⟩ | ⟨h1, h2⟩
            · exact .inl ⟨by rw [h2], _, h1⟩
            · exact .inr ⟨by rw [h2], _, h1⟩
        unfold setAt at e
        split at e
        · rename_i ds es
          cases W1.sl i _ _ ea es with
          | own b1 b2 b3 b4 => exact fin _ _ ds .own es (.inl ⟨rfl, rfl⟩) b1 b4 e
        · rename_i ds es
          cases W1.sl i _ _ ea es with
          | par b0 b1 b2 b3 b4 => exact fin _ _ ds .par es (.inr ⟨rfl, rfl⟩) b1 b4 e
        · cases e
      · cases e
/-- target = value -/
def sAsg (f : Fx D) (g : Gf) : Fx Fl := fun env => (f env).bind fun p => (g p.1 p.2).map fun e => (.nx, e)
theorem s_asg {tg : Expr} {f : Fx D} {sl : List Nat} {g : Gf} (he : PE X e (tE X.K f)) (hg : PG X tg (tG X.K sl g)) (hs : swapsWithSole [tg] e pos.line X.env = pure false) (hw : swappedStores [tg] e X.env = pure none)
    (h1 : (assignEach [tg] X.env).map (·.2) = [assign tg X.env]) : PS X (.Assign [tg] e pos) (tS X.K (sAsg f g)) := by
  refine PS.imp (ps_asg he hg hs hw h1) fun D σ H ⟨F, pa, Z, env, fl, env', W, e, k⟩ => ?_
  unfold sAsg at e
  cases e1 : f env with
  | none => rw [e1] at e; cases e
  | some p =>
    rw [e1, Option.bind_some] at e
    cases e2 : g p.1 p.2 with
    | none => rw [e2] at e; cases e
    | some env2 =>
      rw [e2] at e
      cases e
      exact ⟨F, pa, Z, env, p.1, p.2, W, e1, fun v Z' H' g1 W1 q => ⟨F, pa, Z', p.2, p.1, _, W1, q, e2, fun σ' Z2 H2 g2 W2 _ _ => k σ' Z2 H2 (g1.trans g2) W2⟩⟩
/-- x.append(e) -/
def appAt (i : Nat) (d : D) (env : En) : Option En := match env[i]? with
  | some (.own ds) => if ds.length < sizeLine then some (env.set i (.own (ds ++ [d]))) else none
  | some (.par ds) => if ds.length < sizeLine then some (env.set i (.par (ds ++ [d]))) else none
  | _ => none
def sApp (i : Nat) (f : Fx D) : Fx Fl := fun env => match env[i]? with
  | some s => if isOwn s = true then (match f env with
      | some (d, e) => (appAt i d e).map fun e2 => (.nx, e2)
      | none => none) else none
  | none => none
theorem s_app {i : Nat} {x : Str} {ie : Expr} {f : Fx D} {np ap : Pos} {cp : Pos} (ho : PE X (.Name x np) (tVar i)) (hi : PE X ie (tE X.K f)) (hse : starEach [ie] X.env = (false, eval ie X.env) :: starEach [] X.env)
    (hline : (ap.endLine == cp.line) = true)
    (hs : swapsWith (.Call (.Attribute (.Name x np) "append" ap) [ie] [] cp) none pos.line X.env = pure false) : PS X (.Expr (.Call (.Attribute (.Name x np) "append" ap) [ie] [] cp) pos) (tS X.K (sApp i f)) := by
  refine PS.imp (ps_expr (pe_bm PySem.F.plainAttrs_list PySem.F.slot_list_append PySem.F.type_list_append mt_append ho (pa_cons hi pa_nil hse) rfl (by rw [hse]; rfl) hline hse) hs) fun DD σ H ⟨F, pa, Z, env, fl, env', W, e, k⟩ => ?_
  unfold sApp at e
  cases e0 : env[i]? with
  | none => rw [e0] at e; cases e
  | some s0 =>
    rw [e0] at e
    dsimp only at e
    cases ow : isOwn s0 with
    | false => rw [ow, if_neg Bool.false_ne_true] at e; cases e
    | true =>
      rw [ow, if_pos rfl] at e
      obtain ⟨a, us0, ds0, ea, _, hH0, _⟩ := W.own_ref e0 ow
      split at e
      · rename_i d env1 h1
        cases e2 : appAt i d env1 with
        | none => rw [e2] at e; cases e
        | some env2 =>
          rw [e2] at e
          cases e
          refine ⟨_, ea, Or.inl ⟨rfl, _, SqL.of hH0⟩, F, pa, Z, env, d, env1, W, h1, fun y Z1 H1 g1 W1 q1 => ?_⟩
          have fin : ∀ (s : Sl) (us : List V) (ds : List D) (s' : List D → Sl), env1[i]? = some s → ((s = .own ds ∧ s' = .own) ∨ (s = .par ds ∧ s' = .par)) → H1 a = some (.lst us) → DpAll X.K Z1 us ds → (if ds.length < sizeLine then some (env1.set i (s' (ds ++ [d]))) else none) = some env' →
              ∃ l xs' y', V.ref a = .ref l ∧ [y] = [y'] ∧ H1 l = some (.lst xs') ∧ xs'.length < sizeLine ∧ DD.nx σ (upd H1 l (.lst (xs' ++ [y']))) := fun s us ds s' es hs hH da e => by
            by_cases hl : ds.length < sizeLine
            · rw [if_pos hl] at e
              cases e
              refine ⟨a, us, y, rfl, rfl, hH, by rw [da_length da]; exact hl, ?_⟩
              refine k σ Z1 _ g1 (W1.chg ea es ?_ (da_append da (.cons q1 .nil)))
              rcases hs with ⟨h1, h2⟩ | ⟨h1, h2⟩
              · exact .inl ⟨by rw [h2], _, h1⟩
              · exact .inr ⟨by rw [h2], _, h1⟩
            · rw [if_neg hl] at e; cases e
          unfold appAt at e2
          split at e2
          · rename_i ds es
            cases W1.sl i _ _ ea es with
            | own b1 b2 b3 b4 => exact fin _ _ ds .own es (.inl ⟨rfl, rfl⟩) b1 b4 e2
          · rename_i ds es
            cases W1.sl i _ _ ea es with
            | par b0 b1 b2 b3 b4 => exact fin _ _ ds .par es (.inr ⟨rfl, rfl⟩) b1 b4 e2
          · cases e2
      · cases e
end
end Ev
namespace Ev
open PySem PySem.Spec PyProof.Rows L2
/-! ## while, for -/
def sWhile (c : Fx Bool) (b : Fx Fl) : Nat → Fx Fl
  | 0 => fun _ => none
  | n + 1 => fun env => match c env with
    | some (true, e1) => (match b e1 with
      | some (.nx, e2) => sWhile c b n e2
      | some (.ct, e2) => sWhile c b n e2
      | some (.bk, e2) => some (.nx, e2)
      | some (.rt r, e2) => some (.rt r, e2)
      | none => none)
    | some (false, e1) => some (.nx, e1)
    | none => none
section
variable {X : Cx} {st : Stmt} {e : Expr} {pos : Pos}
theorem s_while {c : Expr} {body : List Stmt} {fc : Fx Bool} {fb : Fx Fl} {n : Nat} (hp : PassesOwn (model X.prog X.w) X.A X.env X.xe) (hc : PT X c (tT X.K fc)) (hb : PSs X body (tS X.K fb)) : PS X (.While c body [] pos) (tS X.K (sWhile fc fb n)) := by
  refine PS.imp (ps_while hp hc hb) fun DD σ H ⟨F, pa, Z, env, fl, env', W, e, k⟩ => ?_
  refine ⟨fun m σ H => ∃ Z1 env1, Gr F Z Z1 ∧ Wst X.K F Z1 H pa σ env1 ∧ sWhile fc fb m env1 = some (fl, env'), ⟨n, Z, env, .refl .., W, e⟩, ?_⟩
  rintro m σ H ⟨Z1, env1, g1, W1, e1⟩
  cases m with
  | zero => cases e1
  | succ m =>
    unfold sWhile at e1
    split at e1
    · rename_i env2 h2
      refine ⟨F, pa, Z1, env1, true, env2, W1, h2, fun Z2 H2 g2 W2 => iteT ?_⟩
      split at e1
      · rename_i env3 h3
        refine ⟨fun σ' H' => ∃ Z1 env1, Gr F Z Z1 ∧ Wst X.K F Z1 H' pa σ' env1 ∧ sWhile fc fb m env1 = some (fl, env'), fun σ' H' q => ⟨m, Nat.lt_succ_self m, q⟩, F, pa, Z2, env2, .nx, env3, W2, h3, fun σ3 Z3 H3 g3 W3 => ?_⟩
        exact ⟨Z3, env3, (g1.trans g2).trans g3, W3, e1⟩
      · rename_i env3 h3
        refine ⟨fun σ' H' => ∃ Z1 env1, Gr F Z Z1 ∧ Wst X.K F Z1 H' pa σ' env1 ∧ sWhile fc fb m env1 = some (fl, env'), fun σ' H' q => ⟨m, Nat.lt_succ_self m, q⟩, F, pa, Z2, env2, .ct, env3, W2, h3, fun σ3 Z3 H3 g3 W3 => ?_⟩
        exact ⟨Z3, env3, (g1.trans g2).trans g3, W3, e1⟩
      · rename_i env3 h3
        cases e1
        refine ⟨fun _ _ => False, fun _ _ z => z.elim, F, pa, Z2, env2, .bk, _, W2, h3, fun σ3 Z3 H3 g3 W3 => ?_⟩
        exact k σ3 Z3 H3 ((g1.trans g2).trans g3) W3
      · rename_i r env3 h3
        cases e1
        refine ⟨fun _ _ => False, fun _ _ z => z.elim, F, pa, Z2, env2, .rt r, _, W2, h3, fun v σ3 Z3 H3 g3 W3 q => ?_⟩
        exact k v σ3 Z3 H3 ((g1.trans g2).trans g3) W3 q
      · cases e1
    · rename_i env2 h2
      cases e1
      exact ⟨F, pa, Z1, env1, false, _, W1, h2, fun Z2 H2 g2 W2 => iteF (k σ Z2 H2 (g1.trans g2) W2)⟩
    · cases e1
/-! ### what is walked -/
/-- the items of the walk J are those of ds, from the frozen part Z1 on -/
def ItOk (K : PySem.W.Frag) (Z1 : Hp) (J : It) (ds : List D) : Prop := ∀ (Z H : Hp), Same Z1 Z → Same Z H → ∀ i : Nat,
  (∀ d, ds[i]? = some d → J.go i H ∧ ∀ x H2, J.yld i H x H2 → ∃ Z2, Alc Z H Z2 H2 ∧ Dp K Z2 x d) ∧ (ds.length ≤ i → J.stop i H)
def tI (K : PySem.W.Frag) (f : Fx (List D)) : TI := fun σ H R => ∃ F pa Z env ds env', Wst K F Z H pa σ env ∧ f env = some (ds, env') ∧
  ∀ J Z' H', Gr F Z Z' → Wst K F Z' H' pa σ env' → ItOk K Z' J ds → R J H'
theorem PI.imp {tg iter : Expr} {t t' : TI} (h : PI X tg iter t) (m : ∀ σ H R, t' σ H R → t σ H R) : PI X tg iter t' := ⟨fun pins s σ H R I q => h.run pins s σ H R I (m σ H R q)⟩
def forL (g : Gf) (b : Fx Fl) : List D → Fx Fl
  | [] => fun env => some (.nx, env)
  | d :: ds => fun env => match g d env with
    | some e1 => (match b e1 with
      | some (.nx, e2) => forL g b ds e2
      | some (.ct, e2) => forL g b ds e2
      | some (.bk, e2) => some (.nx, e2)
      | some (.rt r, e2) => some (.rt r, e2)
      | none => none)
    | none => none
def sFor (f : Fx (List D)) (g : Gf) (b : Fx Fl) : Fx Fl := fun env => match f env with
  | some (ds, e) => forL g b ds e
  | none => none
theorem s_for {tg iter : Expr} {body : List Stmt} {f : Fx (List D)} {sl : List Nat} {g : Gf} {fb : Fx Fl} (hp : PassesOwn (model X.prog X.w) X.A X.env X.xe) (hc : X.calm = true) (hi : PI X tg iter (tI X.K f)) (hg : PG X tg (tG X.K sl g)) (hb : PSs X body (tS X.K fb))
    (hs : ∀ x, foldedSetIterable iter X.env x = pure x) : PS X (.For tg iter body [] pos) (tS X.K (sFor f g fb)) := by
  refine PS.imp (ps_for hp hc hi hg hb hs) fun DD σ H ⟨F, pa, Z, env, fl, env', W, e, k⟩ => ?_
  unfold sFor at e
  split at e
  · rename_i ds env1 h1
    refine ⟨F, pa, Z, env, ds, env1, W, h1, fun J Z1 H1 g1 W1 io => ?_⟩
    refine ⟨fun i m σ H => m = ds.length - i ∧ ∃ Z2 env2, Gr F Z1 Z2 ∧ Wst X.K F Z2 H pa σ env2 ∧ forL g fb (ds.drop i) env2 = some (fl, env'), ⟨_, rfl, Z1, env1, .refl .., W1, by rw [List.drop_zero]; exact e⟩, ?_⟩
    rintro i m σ H ⟨rfl, Z2, env2, g2, W2, e2⟩
    obtain ⟨io1, io2⟩ := io Z2 H g2.zz W2.zh i
    by_cases hi : i < ds.length
    · rw [List.drop_eq_getElem_cons hi] at e2
      obtain ⟨jg, jy⟩ := io1 ds[i] (by simp [hi])
      unfold forL at e2
      split at e2
      · rename_i env3 h3
        have again : ∀ σ' H', (∃ Z2 env2, Gr F Z1 Z2 ∧ Wst X.K F Z2 H' pa σ' env2 ∧ forL g fb (ds.drop (i + 1)) env2 = some (fl, env')) →
            ∃ m', m' < ds.length - i ∧ m' = ds.length - (i + 1) ∧ ∃ Z2 env2, Gr F Z1 Z2 ∧ Wst X.K F Z2 H' pa σ' env2 ∧ forL g fb (ds.drop (i + 1)) env2 = some (fl, env') := fun σ' H' q => ⟨_, by omega, rfl, q⟩
        split at e2
        · rename_i env4 h4
          refine .inr ⟨jg, fun σ' H' => ∃ Z2 env2, Gr F Z1 Z2 ∧ Wst X.K F Z2 H' pa σ' env2 ∧ forL g fb (ds.drop (i + 1)) env2 = some (fl, env'), again, fun x H2 y => ?_⟩
          obtain ⟨Z3, al, dp⟩ := jy x H2 y
          refine ⟨F, pa, Z3, env2, _, env3, W2.alc al, dp, h3, fun σ5 Z5 H5 g5 W5 _ _ => ⟨F, pa, Z5, env3, .nx, env4, W5, h4, fun σ6 Z6 H6 g6 W6 => ?_⟩⟩
          exact ⟨Z6, env4, ((g2.trans (al.gr W2.fh)).trans g5).trans g6, W6, e2⟩
        · rename_i env4 h4
          refine .inr ⟨jg, fun σ' H' => ∃ Z2 env2, Gr F Z1 Z2 ∧ Wst X.K F Z2 H' pa σ' env2 ∧ forL g fb (ds.drop (i + 1)) env2 = some (fl, env'), again, fun x H2 y => ?_⟩
          obtain ⟨Z3, al, dp⟩ := jy x H2 y
          refine ⟨F, pa, Z3, env2, _, env3, W2.alc al, dp, h3, fun σ5 Z5 H5 g5 W5 _ _ => ⟨F, pa, Z5, env3, .ct, env4, W5, h4, fun σ6 Z6 H6 g6 W6 => ?_⟩⟩
          exact ⟨Z6, env4, ((g2.trans (al.gr W2.fh)).trans g5).trans g6, W6, e2⟩
        · rename_i env4 h4
          cases e2
          refine .inr ⟨jg, fun _ _ => False, fun _ _ z => z.elim, fun x H2 y => ?_⟩
          obtain ⟨Z3, al, dp⟩ := jy x H2 y
          refine ⟨F, pa, Z3, env2, _, env3, W2.alc al, dp, h3, fun σ5 Z5 H5 g5 W5 _ _ => ⟨F, pa, Z5, env3, .bk, _, W5, h4, fun σ6 Z6 H6 g6 W6 => ?_⟩⟩
          exact k σ6 Z6 H6 (g1.trans (((g2.trans (al.gr W2.fh)).trans g5).trans g6)) W6
        · rename_i r env4 h4
          cases e2
          refine .inr ⟨jg, fun _ _ => False, fun _ _ z => z.elim, fun x H2 y => ?_⟩
          obtain ⟨Z3, al, dp⟩ := jy x H2 y
          refine ⟨F, pa, Z3, env2, _, env3, W2.alc al, dp, h3, fun σ5 Z5 H5 g5 W5 _ _ => ⟨F, pa, Z5, env3, .rt r, _, W5, h4, fun v σ6 Z6 H6 g6 W6 q => ?_⟩⟩
          exact k v σ6 Z6 H6 (g1.trans (((g2.trans (al.gr W2.fh)).trans g5).trans g6)) W6 q
        · cases e2
      · cases e2
    · rw [List.drop_eq_nil_of_le (by omega)] at e2
      cases e2
      exact .inl ⟨io2 (by omega), k σ Z2 H (g1.trans g2) W2⟩
  · cases e
/-! ### lists and tuples walked -/
def seqD : D → Option (List D)
  | .list ds => some ds
  | .tuple ds => some ds
  | _ => none
def iSeq (f : Fx D) : Fx (List D) := fun env => (f env).bind fun p => (seqD p.1).map fun ds => (ds, p.2)
/-- a list or a tuple, walked -/
theorem pi_either {tg l : Expr} {tl : TE} (hl : PE X l tl) : PI X tg l (fun σ H R => tl σ H fun x H1 => (∃ a, x = .ref a ∧ (∃ xs, SqL X.K H1 a xs) ∧ R (Itl X.K a) H1) ∨ (∃ a, x = .ref a ∧ (∃ xs, SqT X.K H1 a xs) ∧ R (Itt X.K a) H1)) := by
  constructor
  intro pins s σ H R I h
  refine wpAny_mono (hl.run pins s σ H _ I h) ?_ fun _ _ z => z
  rintro v s1 ⟨x, H1, I1, r1, ⟨a, rfl, ⟨xs, hq⟩, q⟩ | ⟨a, rfl, ⟨xs, hq⟩, q⟩⟩
  · have Y : wpAny (model X.prog X.w) X.A (pyIter v) (PIE X pins σ tg R) X.xe s1 := by
      cases r1
      obtain ⟨its, _, p, _⟩ := I1.list hq
      refine wpAny_pyIter_list p.isList ⟨_, [_], _, _, H1, rfl, ?_, turn_list a _, ⟨_, Heap.get?_push_size _ rfl, rfl, rfl⟩, ?_, q⟩
      · exact I1.kept (t' := s1.toks) fun b o z => Heap.get?_push_of_some _ z
      · intro b hb
        rw [List.mem_singleton] at hb
        rw [hb]
        exact I1.fpOk (Nat.le_refl _) I1.fresh
    exact Y
  · have Y : wpAny (model X.prog X.w) X.A (pyIter v) (PIE X pins σ tg R) X.xe s1 := by
      cases r1
      obtain ⟨its, _, p, _⟩ := I1.tuple hq
      refine wpAny_pyIter_tuple (show s1.heap.IsTuple a its.toArray from p) ⟨_, [_], _, _, H1, rfl, ?_, turn_tuple a _, ⟨_, Heap.get?_push_size _ rfl, rfl, rfl⟩, ?_, q⟩
      · exact I1.kept (t' := s1.toks) fun b o z => Heap.get?_push_of_some _ z
      · intro b hb
        rw [List.mem_singleton] at hb
        rw [hb]
        exact I1.fpOk (Nat.le_refl _) I1.fresh
    exact Y
theorem s_iSeq {tg : Expr} {f : Fx D} (h : PE X e (tE X.K f)) : PI X tg e (tI X.K (iSeq f)) := by
  refine PI.imp (pi_either h) fun σ H R ⟨F, pa, Z, env, ds, env', W, e, k⟩ => ?_
  unfold iSeq at e
  cases h1 : f env with
  | none => rw [h1] at e; cases e
  | some p =>
    rw [h1, Option.bind_some] at e
    cases h2 : seqD p.1 with
    | none => rw [h2] at e; cases e
    | some ds' =>
      rw [h2] at e
      cases e
      refine ⟨F, pa, Z, env, p.1, p.2, W, h1, fun v Z1 H1 g1 W1 q => ?_⟩
      generalize p.1 = d at q h2
      cases q with
      | @lst a us ds hs ha =>
        cases h2
        refine .inl ⟨a, rfl, ⟨us, W1.zh.seq hs⟩, k _ Z1 H1 g1 W1 fun Z2 H2 z1 z2 i => ⟨fun d hd => ?_, fun hi => ⟨us, z2.seq (z1.seq hs), by rw [da_length ha]; exact hi⟩⟩⟩
        obtain ⟨v, hv, dv⟩ := da_get ha hd
        have hq := z2.seq (z1.seq hs)
        refine ⟨⟨us, v, hq, hv⟩, fun x H3 ⟨e3, y⟩ => ?_⟩
        subst e3
        have : us[i]? = some x := y us hq
        rw [hv] at this; cases this
        exact ⟨Z2, .refl z2, Dp.mono z1 _ _ dv⟩
      | @tup a us ds hs ha =>
        cases h2
        refine .inr ⟨a, rfl, ⟨us, Same.sqT W1.zh hs⟩, k _ Z1 H1 g1 W1 fun Z2 H2 z1 z2 i => ⟨fun d hd => ?_, fun hi => ⟨us, Same.sqT z2 (Same.sqT z1 hs), by rw [da_length ha]; exact hi⟩⟩⟩
        obtain ⟨v, hv, dv⟩ := da_get ha hd
        have hq := Same.sqT z2 (Same.sqT z1 hs)
        refine ⟨⟨us, v, hq, hv⟩, fun x H3 ⟨e3, y⟩ => ?_⟩
        subst e3
        have : us[i]? = some x := y us hq
        rw [hv] at this; cases this
        exact ⟨Z2, .refl z2, Dp.mono z1 _ _ dv⟩
      | _ => cases h2
end
end Ev
namespace Ev
open PySem PySem.Spec PyProof.Rows L2
/-! ## comprehensions -/
def wipeE (env : En) : List Nat → En
  | [] => env
  | v :: vs => (wipeE env vs).set v .no
theorem wipeE_length (env : En) : ∀ vs : List Nat, (wipeE env vs).length = env.length
  | [] => rfl
  | v :: vs => by unfold wipeE; rw [List.length_set, wipeE_length env vs]
theorem wipeE_in {env : En} {i : Nat} {s : Sl} : ∀ {vs : List Nat}, i ∈ vs → (wipeE env vs)[i]? = some s → s = .no
  | [], h, _ => by cases h
  | v :: vs, h, e => by
    unfold wipeE at e
    by_cases hv : v = i
    · subst hv
      by_cases hl : v < (wipeE env vs).length
      · rw [List.getElem?_set_self hl] at e; cases e; rfl
      · rw [List.getElem?_eq_none (by simpa using hl)] at e; cases e
    · rw [List.getElem?_set_ne hv] at e
      exact wipeE_in ((List.mem_cons.mp h).resolve_left fun z => hv z.symm) e
theorem wipeE_out {env : En} {i : Nat} : ∀ {vs : List Nat}, i ∉ vs → (wipeE env vs)[i]? = env[i]?
  | [], _ => rfl
  | v :: vs, h => by
    unfold wipeE
    rw [List.mem_cons, not_or] at h
    rw [List.getElem?_set_ne (fun z => h.1 z.symm)]
    exact wipeE_out h.2
theorem wipe_out' {σ : L2.St} {i : Nat} : ∀ {vs : List Nat}, i ∉ vs → (wipe σ vs)[i]? = σ[i]?
  | [], _ => rfl
  | v :: vs, h => by
    unfold wipe
    rw [List.mem_cons, not_or] at h
    rw [List.getElem?_set_ne (fun z => h.1 z.symm)]
    exact wipe_out' h.2
section
variable {K : PySem.W.Frag} {F Z H : Hp} {pa : Nat → Option Addr} {σ σ' : L2.St} {env : En} {vs : List Nat}
/-- the slots vs forgotten, on whatever side -/
theorem Wst.wipeTo (W : Wst K F Z H pa σ env) (hl : σ'.length = σ.length) (hs : ∀ i, i ∉ vs → σ'[i]? = σ[i]?) : Wst K F Z H pa σ' (wipeE env vs) := by
  have key : ∀ {i : Nat} {o : Option V} {s : Sl}, σ'[i]? = some o → (wipeE env vs)[i]? = some s → s = .no ∨ (σ[i]? = some o ∧ env[i]? = some s) := fun {i o s} e1 e2 => by
    by_cases h : i ∈ vs
    · exact .inl (wipeE_in h e2)
    · rw [wipeE_out h] at e2
      rw [hs i h] at e1
      exact .inr ⟨e1, e2⟩
  refine ⟨W.fh, W.zh, by rw [hl, W.len, wipeE_length], fun i o s e1 e2 => ?_, fun i j o o' s s' a ne e1 e2 e3 e4 o1 o2 => ?_⟩
  · rcases key e1 e2 with rfl | ⟨q1, q2⟩
    · exact .no _
    · exact W.sl i o s q1 q2
  · rcases key e1 e2 with rfl | ⟨q1, q2⟩
    · obtain ⟨_, ⟨_, z⟩ | ⟨_, z⟩⟩ := ownA_iff.mp o1 <;> cases z
    · rcases key e3 e4 with rfl | ⟨q3, q4⟩
      · obtain ⟨_, ⟨_, z⟩ | ⟨_, z⟩⟩ := ownA_iff.mp o2 <;> cases z
      · exact W.dj i j o o' s s' a ne q1 q2 q3 q4 o1 o2
theorem Wst.wiped (W : Wst K F Z H pa σ env) : Wst K F Z H pa (wipe σ vs) (wipeE env vs) := W.wipeTo (wipe_length σ vs) fun _ h => wipe_out' h
/-- the frame's object p is changed -/
theorem Wst.updF {p : Addr} {o o' : HO} (W : Wst K (upd F p o) Z H pa σ env) (hz : Z p = none) : Wst K (upd F p o') Z (upd H p o') pa σ env := by
  have nown : ∀ {i : Nat} {v : Option V} {s : Sl} {a : Addr}, σ[i]? = some v → env[i]? = some s → ownA v s = some a → a ≠ p := fun {i v s a} e1 e2 e3 z => by
    obtain ⟨_, _, q, _⟩ := (W.sl i v s e1 e2).at_ e3
    rw [z, upd_same] at q; cases q
  refine ⟨fun b u e => ?_, fun b u e => ?_, W.len, fun i v s e1 e2 => ?_, W.dj⟩
  · by_cases q : b = p
    · subst q; rw [upd_same] at e ⊢; exact e
    · rw [upd_ne q] at e ⊢; exact W.fh b u (by rw [upd_ne q]; exact e)
  · rw [upd_ne (fun q => by subst q; rw [hz] at e; cases e)]; exact W.zh b u e
  · have so := W.sl i v s e1 e2
    cases so with
    | no => exact .no _
    | val d => exact .val d
    | @own a us ds h1 h2 h3 h4 =>
      have q : a ≠ p := nown e1 e2 rfl
      rw [upd_ne q] at h2
      exact .own (by rw [upd_ne q]; exact h1) (by rw [upd_ne q]; exact h2) h3 h4
    | @par a us ds h0 h1 h2 h3 h4 =>
      have q : a ≠ p := nown e1 e2 rfl
      rw [upd_ne q] at h2
      exact .par h0 (by rw [upd_ne q]; exact h1) (by rw [upd_ne q]; exact h2) h3 h4
end
/-- one turn behind another: what is kept, the state behind the last -/
def compL (g : Gf) (c : Fx Bool) (f : Fx D) (vs : List Nat) : List D → List D → Fx (List D)
  | [], acc => fun env => some (acc, env)
  | d :: ds, acc => fun env => match g d env with
    | some e1 => (match c e1 with
      | some (true, e2) => (match f e2 with
        | some (y, e3) => if acc.length < sizeLine then compL g c f vs ds (acc ++ [y]) (wipeE e3 vs) else none
        | none => none)
      | some (false, e2) => compL g c f vs ds acc (wipeE e2 vs)
      | none => none)
    | none => none
def eComp (it : Fx (List D)) (g : Gf) (c : Fx Bool) (f : Fx D) (vs : List Nat) : Fx R := fun env => match it env with
  | some (ds, e) => (compL g c f vs ds [] (wipeE e vs)).map fun p => (.fresh p.1, p.2)
  | none => none
theorem tLc_of {K : PySem.W.Frag} {it : Fx (List D)} {sl : List Nat} {g : Gf} {c : Fx Bool} {f : Fx D} {vs : List Nat} (hsl : ∀ i ∈ sl, i ∈ vs) {σ : L2.St} {H : Hp} {Q : VK} (h : tR K (eComp it g c f vs) σ H Q) :
    tLc (tI K it) (tG K sl g) (tT K c) (tE K f) vs σ H Q := by
  obtain ⟨F, pa, Z, env, r, env', W, e, k⟩ := h
  unfold eComp at e
  split at e
  · rename_i ds env1 h1
    cases h2 : compL g c f vs ds [] (wipeE env1 vs) with
    | none => rw [h2] at e; cases e
    | some q =>
      obtain ⟨res, env2⟩ := q
      rw [h2] at e
      cases e
      refine ⟨F, pa, Z, env, ds, env1, W, h1, fun J Z1 H1 g1 W1 io p hp => ?_⟩
      have fp : F p = none := W1.fh.free hp
      have zp : Z1 p = none := W1.zh.free hp
      -- the invariant: the turn, what is made so far
      refine ⟨fun i m H => m = ds.length - i ∧ ∃ Z2 env3 us acc, Gr F Z1 Z2 ∧ Z2 p = none ∧ H p = some (.lst us) ∧ DpAll K Z2 us acc ∧ Wst K (upd F p (.lst us)) Z2 H pa (wipe σ vs) env3 ∧ wipeE env3 vs = env3 ∧ compL g c f vs (ds.drop i) acc env3 = some (res, env2),
        ⟨_, rfl, Z1, wipeE env1 vs, [], [], .refl .., zp, upd_same, .nil, ?_, ?_, by rw [List.drop_zero]; exact h2⟩, ?_⟩
      · have W2 : Wst K (upd F p (.lst [])) Z1 (upd H1 p (.lst [])) pa σ env1 := by
          have al : Alc Z1 H1 Z1 (upd H1 p (.lst [])) := ⟨Same.refl _, upd_none hp, fun b u e => by rw [upd_ne (fun z => by subst z; rw [zp] at e; cases e)]; exact W1.zh b u e, fun _ _ => rfl⟩
          refine (W1.alc al).frameUp upd_same fun i o s e1 e2 e3 => ?_
          obtain ⟨us, b1, _⟩ := (W1.sl i o s e1 e2).at_ e3
          rw [hp] at b1; cases b1
        exact W2.wiped
      · have wi : ∀ (vs ws : List Nat) (env : En), (∀ v ∈ vs, v ∈ ws) → wipeE (wipeE env ws) vs = wipeE env ws := by
          intro vs ws env hs
          refine List.ext_getElem? fun i => ?_
          by_cases hi : i ∈ vs
          · have hl : (wipeE (wipeE env ws) vs).length = (wipeE env ws).length := wipeE_length _ _
            by_cases hb : i < (wipeE env ws).length
            · have e1 : (wipeE (wipeE env ws) vs)[i]? = some ((wipeE (wipeE env ws) vs)[i]'(by rw [hl]; exact hb)) := by simp [hl, hb]
              have e2 : (wipeE env ws)[i]? = some ((wipeE env ws)[i]) := by simp [hb]
              rw [e1, e2, wipeE_in hi e1, wipeE_in (hs i hi) e2]
            · rw [List.getElem?_eq_none (by omega), List.getElem?_eq_none (by omega)]
          · rw [wipeE_out hi]
        exact wi vs vs env1 fun _ h => h
      · rintro i m H ⟨rfl, Z2, env3, us, acc, g2, z2, hH, da, W2, wz, e2⟩
        obtain ⟨io1, io2⟩ := io Z2 H g2.zz W2.zh i
        by_cases hi : i < ds.length
        · rw [List.drop_eq_getElem_cons hi] at e2
          obtain ⟨jg, jy⟩ := io1 ds[i] (by simp [hi])
          refine .inr ⟨jg, fun H' => ∃ Z2 env3 us acc, Gr F Z1 Z2 ∧ Z2 p = none ∧ H' p = some (.lst us) ∧ DpAll K Z2 us acc ∧ Wst K (upd F p (.lst us)) Z2 H' pa (wipe σ vs) env3 ∧ wipeE env3 vs = env3 ∧ compL g c f vs (ds.drop (i + 1)) acc env3 = some (res, env2),
            fun H' q => ⟨ds.length - (i + 1), by omega, rfl, q⟩, fun x H2 y => ?_⟩
          obtain ⟨Z3, al, dp⟩ := jy x H2 y
          unfold compL at e2
          split at e2
          · rename_i env4 h4
            have W3 := W2.alc al
            have sf : Same F (upd F p (.lst us)) := upd_none fp
            refine ⟨_, pa, Z3, env3, _, env4, W3, dp, h4, fun σ5 Z5 H5 g5 W5 l5 k5 => ⟨?_, ?_⟩⟩
            · refine List.ext_getElem? fun j => ?_
              by_cases hj : j ∈ vs
              · have wn : ∀ (σ : L2.St) (vs : List Nat), j ∈ vs → j < σ.length → (wipe σ vs)[j]? = some none := by
                  intro σ vs
                  induction vs with
                  | nil => intro h; cases h
                  | cons v vs ih =>
                    intro h hl
                    unfold wipe
                    by_cases hv : v = j
                    · subst hv; rw [List.getElem?_set_self (by rw [wipe_length]; exact hl)]
                    · rw [List.getElem?_set_ne hv]
                      exact ih ((List.mem_cons.mp h).resolve_left fun z => hv z.symm) hl
                have hlen : (wipe σ vs).length = σ.length := wipe_length σ vs
                by_cases hb : j < σ.length
                · rw [wn σ5 vs hj (by rw [l5, hlen]; exact hb), wn σ vs hj hb]
                · rw [List.getElem?_eq_none (by rw [wipe_length, l5, hlen]; omega), List.getElem?_eq_none (by rw [hlen]; omega)]
              · rw [wipe_out' hj, k5 j (fun z => hj (hsl j z))]
            · have l5' : (wipe σ vs).length = σ5.length := l5.symm
              have s5 : ∀ i, i ∉ vs → (wipe σ vs)[i]? = σ5[i]? := fun i h => (k5 i fun z => h (hsl i z)).symm
              have wi2 : ∀ (env : En), wipeE (wipeE env vs) vs = wipeE env vs := by
                intro env
                refine List.ext_getElem? fun i => ?_
                by_cases hi : i ∈ vs
                · have hl : (wipeE (wipeE env vs) vs).length = (wipeE env vs).length := wipeE_length _ _
                  by_cases hb : i < (wipeE env vs).length
                  · have e1 : (wipeE (wipeE env vs) vs)[i]? = some ((wipeE (wipeE env vs) vs)[i]'(by rw [hl]; exact hb)) := by simp [hl, hb]
                    have e2 : (wipeE env vs)[i]? = some ((wipeE env vs)[i]) := by simp [hb]
                    rw [e1, e2, wipeE_in hi e1, wipeE_in hi e2]
                  · rw [List.getElem?_eq_none (by omega), List.getElem?_eq_none (by omega)]
                · rw [wipeE_out hi]
              have gz : ∀ {Z : Hp}, Gr (upd F p (.lst us)) Z5 Z → Z p = none := fun {Z} g => by
                rw [g.nf p (by rw [upd_same]; exact fun z => nomatch z), g5.nf p (by rw [upd_same]; exact fun z => nomatch z)]
                by_cases q : Z3 p = none
                · exact q
                · have : Z3 p = Z2 p := al.nw p (by rw [hH]; exact fun z => nomatch z)
                  rw [this]; exact z2
              split at e2
              · rename_i env5 h5
                refine ⟨_, pa, Z5, env4, true, env5, W5, h5, fun Z6 H6 g6 W6 => iteT ?_⟩
                split at e2
                · rename_i yy env6 h6
                  refine ⟨_, pa, Z6, env5, yy, env6, W6, h6, fun v Z7 H7 g7 W7 q7 => ?_⟩
                  by_cases hl : acc.length < sizeLine
                  · rw [if_pos hl] at e2
                    have g37 : Gr (upd F p (.lst us)) Z5 Z7 := g6.trans g7
                    have p7 : H7 p = some (.lst us) := W7.fh p _ upd_same
                    have zz : Same Z2 Z7 := al.zz.trans (g5.zz.trans g37.zz)
                    refine ⟨us, p7, by rw [da_length da]; exact hl, Z7, wipeE env6 vs, us ++ [v], acc ++ [yy], ?_, gz g37, upd_same, da_append (DpAll.mono zz _ _ da) (.cons q7 .nil), (W7.wipeTo l5' s5).updF (gz g37), wi2 _, e2⟩
                    exact g2.trans (((al.gr W2.fh).trans (g5.trans g37)).frame sf)
                  · rw [if_neg hl] at e2; cases e2
                · cases e2
              · rename_i env5 h5
                refine ⟨_, pa, Z5, env4, false, env5, W5, h5, fun Z6 H6 g6 W6 => iteF ?_⟩
                have zz : Same Z2 Z6 := al.zz.trans (g5.zz.trans g6.zz)
                exact ⟨Z6, wipeE env5 vs, us, acc, g2.trans (((al.gr W2.fh).trans (g5.trans g6)).frame sf), gz g6, W6.fh p _ upd_same, DpAll.mono zz _ _ da, W6.wipeTo l5' s5, wi2 _, e2⟩
              · cases e2
          · cases e2
        · rw [List.drop_eq_nil_of_le (by omega)] at e2
          cases e2
          have sf : Same F (upd F p (.lst us)) := upd_none fp
          have W3 := (W2.frame sf).wipeTo (σ' := σ) (vs := vs) (wipe_length σ vs).symm fun i h => (wipe_out' h).symm
          rw [wz] at W3
          refine .inl ⟨io2 (by omega), k _ Z2 H (g1.trans g2) W3 ⟨p, us, rfl, hH, z2, fp, da, fun i o s q1 q2 q3 => ?_⟩⟩
          by_cases hj : i ∈ vs
          · rw [← wz] at q2
            rw [wipeE_in hj q2] at q3
            obtain ⟨_, ⟨_, z⟩ | ⟨_, z⟩⟩ := ownA_iff.mp q3 <;> cases z
          · obtain ⟨_, _, z, _⟩ := (W2.sl i o s (by rw [wipe_out' hj]; exact q1) q2).at_ q3
            rw [upd_same] at z; cases z
  · cases e
section
variable {X : Cx}
theorem s_comp {elt tg iter : Expr} {ifs : List Expr} {scope : Scope} {own : List (Str × Nat)} {pos : Pos} {it : Fx (List D)} {sl : List Nat} {g : Gf} {c : Fx Bool} {f : Fx D} (hc : X.calm = true) (hN : X.N.Nodup) (hi : PI X tg iter (tI X.K it)) (ok : BlkOk X.N X.env.scope scope own)
    (hsl : ∀ i ∈ sl, i ∈ own.map (·.2))
    (hg : ∀ (s : Shared) (H : Hp) (C : Addr) (cl : List (Str × Addr)) (fp : List Addr), PG (X.blk s H scope (compEnvC scope cl C X.env) fp) tg (tG X.K sl g))
    (ht : ∀ (s : Shared) (H : Hp) (C : Addr) (cl : List (Str × Addr)) (fp : List Addr), PTs (X.blk s H scope (compEnvC scope cl C X.env) fp) ifs (tT X.K c))
    (he : ∀ (s : Shared) (H : Hp) (C : Addr) (cl : List (Str × Addr)) (fp : List Addr), PE (X.blk s H scope (compEnvC scope cl C X.env) fp) elt (tE X.K f)) (hs : ∀ x, foldedSetIterable iter X.env x = pure x) :
    PE X (.ListComp elt [⟨tg, iter, ifs, 0⟩] scope pos) (tR X.K (eComp it g c f (own.map (·.2)))) :=
  PE.imp (pe_lc hc hN hi ok hg ht he hs) fun σ H Q h => tLc_of hsl h
theorem s_setComp {i : Nat} {y : Str} {py : Pos} {elt tg iter : Expr} {ifs : List Expr} {scope : Scope} {own : List (Str × Nat)} {pos spos : Pos} {it : Fx (List D)} {sl : List Nat} {g : Gf} {c : Fx Bool} {f : Fx D} (hc : X.calm = true) (hN : X.N.Nodup) (hy : X.N[i]? = some y) (hyl : X.env.scope.names.lookup y = some .local)
    (hsw : swapsWith (.ListComp elt [⟨tg, iter, ifs, 0⟩] scope pos) (some (.Name y py)) spos.line X.env = pure true) (hi : PI X tg iter (tI X.K it)) (ok : BlkOk X.N X.env.scope scope own)
    (hsl : ∀ i ∈ sl, i ∈ own.map (·.2))
    (hg : ∀ (s : Shared) (H : Hp) (C : Addr) (cl : List (Str × Addr)) (fp : List Addr), PG (X.blk s H scope (compEnvC scope cl C X.env) fp) tg (tG X.K sl g))
    (ht : ∀ (s : Shared) (H : Hp) (C : Addr) (cl : List (Str × Addr)) (fp : List Addr), PTs (X.blk s H scope (compEnvC scope cl C X.env) fp) ifs (tT X.K c))
    (he : ∀ (s : Shared) (H : Hp) (C : Addr) (cl : List (Str × Addr)) (fp : List Addr), PE (X.blk s H scope (compEnvC scope cl C X.env) fp) elt (tE X.K f)) (hs : ∀ x, foldedSetIterable iter X.env x = pure x) :
    PS X (.Assign [.Name y py] (.ListComp elt [⟨tg, iter, ifs, 0⟩] scope pos) spos) (tS X.K (sSet i (eComp it g c f (own.map (·.2))))) :=
  s_setG (ps_setLc hc hN hy hyl hsw hi ok hg ht he hs) fun σ H Q h => tLc_of hsl h
end
end Ev
namespace Ev
open PySem PySem.Spec PyProof.Rows L2
/-! ## a def -/
def initE (n : Nat) (avs : List AV) : En := avs.map (fun a => match a with | .val d => Sl.val d | .own ds => Sl.par ds) ++ List.replicate (n - avs.length) Sl.no
def outsOf : List AV → Nat → En → Option (List (List D))
  | [], _, _ => some []
  | .val _ :: as, n, env => outsOf as (n + 1) env
  | .own _ :: as, n, env => match env[n]? with
    | some (.par ds) => (outsOf as (n + 1) env).map fun r => ds :: r
    | _ => none
def callFn (n : Nat) (body : Fx Fl) : Fn := fun avs => match body (initE n avs) with
  | some (.rt r, env) => (outsOf avs 0 env).map fun o => (r, o)
  | some (.nx, env) => (outsOf avs 0 env).map fun o => (.val .none, o)
  | _ => none
section
variable {K : PySem.W.Frag} {F Z H : Hp}
theorem AvOk.get_val : ∀ {vs : List V} {as : List AV} {i : Nat} {v : V} {d : D}, AvOk K F Z H vs as → vs[i]? = some v → as[i]? = some (.val d) → Dp K Z v d
  | _, _, _, _, _, .nil, e, _ => by simp at e
  | _, _, 0, _, _, .val h _, e, e' => by simp at e e'; rw [← e, ← e']; exact h
  | _, _, 0, _, _, .own .., e, e' => by simp at e'
  | _, _, i + 1, _, _, .val _ t, e, e' => t.get_val (i := i) (by simpa using e) (by simpa using e')
  | _, _, i + 1, _, _, .own _ _ _ _ _ t, e, e' => t.get_val (i := i) (by simpa using e) (by simpa using e')
theorem AvOk.get_own : ∀ {vs : List V} {as : List AV} {i : Nat} {v : V} {ds : List D}, AvOk K F Z H vs as → vs[i]? = some v → as[i]? = some (.own ds) → ∃ a us, v = .ref a ∧ H a = some (.lst us) ∧ F a = none ∧ Z a = none ∧ DpAll K Z us ds ∧ a ∈ ownAdr vs as
  | _, _, _, _, _, .nil, e, _ => by simp at e
  | _, _, 0, _, _, .val h _, e, e' => by simp at e'
  | _, _, 0, _, _, .own (a := a) h1 h2 h3 h4 _ _, e, e' => by simp at e e'; rw [← e, ← e']; exact ⟨a, _, rfl, h1, h2, h3, h4, List.mem_cons_self ..⟩
  | _, _, i + 1, _, _, .val (v := v) _ t, e, e' => by
    obtain ⟨a, us, h1, h2, h3, h4, h5, h6⟩ := t.get_own (i := i) (by simpa using e) (by simpa using e')
    exact ⟨a, us, h1, h2, h3, h4, h5, by cases v <;> exact h6⟩
  | _, _, i + 1, _, _, .own _ _ _ _ _ t, e, e' => by
    obtain ⟨a, us, h1, h2, h3, h4, h5, h6⟩ := t.get_own (i := i) (by simpa using e) (by simpa using e')
    exact ⟨a, us, h1, h2, h3, h4, h5, List.mem_cons_of_mem _ h6⟩
theorem AvOk.own_ne : ∀ {vs : List V} {as : List AV} {i j : Nat} {a : Addr} {ds es : List D}, AvOk K F Z H vs as → i < j → vs[i]? = some (.ref a) → as[i]? = some (.own ds) → vs[j]? = some (.ref a) → as[j]? = some (.own es) → False
  | _, _, _, _, _, _, _, .nil, _, e, _, _, _ => by simp at e
  | _, _, 0, 0, _, _, _, _, h, _, _, _, _ => by omega
  | _, _, 0, j + 1, _, _, _, .val .., _, _, e, _, _ => by simp at e
  | _, _, 0, j + 1, a, ds, es, .own (a := b) _ _ _ _ n t, _, e1, _, e3, e4 => by
    have e1' : b = a := by simpa using e1
    subst e1'
    obtain ⟨c, _, q, _, _, _, _, hm⟩ := t.get_own (i := j) (by simpa using e3) (by simpa using e4)
    cases q
    exact n hm
  | _, _, i + 1, j + 1, _, _, _, .val _ t, h, e1, e2, e3, e4 => t.own_ne (i := i) (j := j) (by omega) (by simpa using e1) (by simpa using e2) (by simpa using e3) (by simpa using e4)
  | _, _, i + 1, j + 1, _, _, _, .own _ _ _ _ _ t, h, e1, e2, e3, e4 => t.own_ne (i := i) (j := j) (by omega) (by simpa using e1) (by simpa using e2) (by simpa using e3) (by simpa using e4)
  | _, _, i + 1, 0, _, _, _, _, h, _, _, _, _ => by omega
def paOf (vs : List V) (avs : List AV) (i : Nat) : Option Addr := match vs[i]?, avs[i]? with
  | some (.ref a), some (.own _) => some a
  | _, _ => none
theorem init_get {n i : Nat} {avs : List AV} {s : Sl} (e : (initE n avs)[i]? = some s) : s = .no ∨ ∃ av, avs[i]? = some av ∧ s = (match av with | .val d => Sl.val d | .own ds => Sl.par ds) := by
  unfold initE at e
  by_cases h : i < avs.length
  · rw [List.getElem?_append_left (by simpa using h), List.getElem?_map] at e
    cases q : avs[i]? with
    | none => rw [q] at e; cases e
    | some av => rw [q] at e; cases e; exact .inr ⟨av, rfl, rfl⟩
  · rw [List.getElem?_append_right (by simpa using h)] at e
    rw [List.getElem?_replicate] at e
    split at e
    · cases e; exact .inl rfl
    · cases e
theorem start_get {N : List Str} {vs : List V} {i : Nat} {v : V} (h : vs[i]? = some v) : (L2.start N vs)[i]? = some (some v) := by
  have hi : i < vs.length := (List.getElem?_eq_some_iff.mp h).1
  unfold L2.start
  rw [List.getElem?_append_left (by simpa using hi), List.getElem?_map, h]
  rfl
theorem Wst.start {N : List Str} {vs : List V} {avs : List AV} (f : Same F H) (z : Same Z H) (A : AvOk K F Z H vs avs) (hl : vs.length ≤ N.length) : Wst K F Z H (paOf vs avs) (L2.start N vs) (initE N.length avs) := by
  have la := A.length
  have sv : ∀ {i : Nat} {o : Option V} {av : AV}, (L2.start N vs)[i]? = some o → avs[i]? = some av → ∃ v, vs[i]? = some v ∧ o = some v := fun {i o av} e q => by
    have hi : i < vs.length := by rw [la]; exact (List.getElem?_eq_some_iff.mp q).1
    have e1 : vs[i]? = some vs[i] := by simp [hi]
    rw [start_get e1] at e
    exact ⟨_, e1, (Option.some.inj e).symm⟩
  refine ⟨f, z, ?_, fun i o s e1 e2 => ?_, fun i j o o' s s' a ne e1 e2 e3 e4 o1 o2 => ?_⟩
  · unfold L2.start initE
    simp
    omega
  · rcases init_get e2 with rfl | ⟨av, q, rfl⟩
    · exact .no _
    · obtain ⟨v, hv, rfl⟩ := sv e1 q
      cases av with
      | val d => exact .val (A.get_val hv q)
      | own ds =>
        obtain ⟨a, us, rfl, h1, h2, h3, h4, h5⟩ := A.get_own hv q
        refine .par ?_ h1 h2 h3 h4
        unfold paOf
        rw [hv, q]
  · have key : ∀ {i : Nat} {o : Option V} {s : Sl}, (L2.start N vs)[i]? = some o → (initE N.length avs)[i]? = some s → ownA o s = some a → ∃ ds, vs[i]? = some (.ref a) ∧ avs[i]? = some (.own ds) := fun {i o s} e1 e2 e3 => by
      obtain ⟨rfl, hs⟩ := ownA_iff.mp e3
      rcases init_get e2 with rfl | ⟨av, q, rfl⟩
      · rcases hs with ⟨_, z⟩ | ⟨_, z⟩ <;> cases z
      · obtain ⟨v, hv, ev⟩ := sv e1 q
        cases ev
        cases av with
        | val d => rcases hs with ⟨_, z⟩ | ⟨_, z⟩ <;> cases z
        | own ds => exact ⟨ds, hv, q⟩
    obtain ⟨ds, a1, a2⟩ := key e1 e2 o1
    obtain ⟨es, b1, b2⟩ := key e3 e4 o2
    rcases Nat.lt_or_gt_of_ne ne with h | h
    · exact A.own_ne h a1 a2 b1 b2
    · exact A.own_ne h b1 b2 a1 a2
theorem outs_ok {Z' H' : Hp} {pa : Nat → Option Addr} {σ' : L2.St} {env' : En} (W : Wst K F Z' H' pa σ' env') : ∀ {vs : List V} {avs : List AV} {n : Nat} {outs : List (List D)}, AvOk K F Z H vs avs → (∀ i a ds, vs[i]? = some (.ref a) → avs[i]? = some (.own ds) → pa (n + i) = some a) →
    outsOf avs n env' = some outs → OutOk K Z' H' (ownAdr vs avs) outs ∧ ∀ a ∈ ownAdr vs avs, ∃ (j : Nat) (s : Sl), σ'[j]? = some (some (.ref a)) ∧ env'[j]? = some s ∧ ownA (some (.ref a)) s = some a
  | _, _, n, outs, .nil, _, e => by cases e; exact ⟨.nil, fun a h => by cases h⟩
  | _, _, n, outs, .val (v := v) (vs := vs) (as := as) _ t, hp, e => by
    have := outs_ok W (n := n + 1) t (fun i a ds e1 e2 => by rw [show n + 1 + i = n + (i + 1) by omega]; exact hp (i + 1) a ds (by simpa using e1) (by simpa using e2)) (show outsOf as (n + 1) env' = some outs from e)
    cases v <;> exact this
  | _, _, n, outs, .own (a := a) (ds := ds) (vs := vs) (as := as) _ _ _ _ _ t, hp, e => by
    unfold outsOf at e
    split at e
    · rename_i es e1
      cases e2 : outsOf as (n + 1) env' with
      | none => rw [e2] at e; cases e
      | some r =>
        rw [e2] at e; cases e
        obtain ⟨h1, h2⟩ := outs_ok W (n := n + 1) t (fun i a ds e1 e2 => by rw [show n + 1 + i = n + (i + 1) by omega]; exact hp (i + 1) a ds (by simpa using e1) (by simpa using e2)) e2
        obtain ⟨o, eo, so⟩ := W.get e1
        cases so with
        | @par b us _ b0 b1 b2 b3 b4 =>
          have q := hp 0 a ds rfl rfl
          rw [Nat.add_zero, b0] at q
          have q' : b = a := Option.some.inj q
          subst q'
          refine ⟨.cons b1 b3 b4 h1, fun c hc => ?_⟩
          rcases List.mem_cons.mp (show c ∈ b :: ownAdr vs as from hc) with rfl | hc
          · exact ⟨n, _, eo, e1, rfl⟩
          · exact h2 c hc
    · cases e
end
theorem fn_ok {P : Program} {w : World} {K : PySem.W.Frag} {mg : Str → Option Value} {base : Heap} {x qual : Str} {params : Arguments} {body : List Stmt} {scope : Scope} {dvs : List V} {kws : List (Str × V)} {f : Addr} {fd : FuncData} {N ps : List Str} {k : Nat} {fb : Fx Fl}
    (F : FunD K x qual params body scope dvs kws f fd) (S : FnScope N ps scope)
    (hb : ∀ (cdv : Value) (A : Around) (outer : List Env) (s : Shared) (H : Hp) (E : XK), Room k (A.deeper (envOfC qual scope s.heap.objs.size f cdv)) → PSs (cxOf CX0 P w K mg base N qual scope f cdv A outer s H E).nox body (tS K fb)) :
    FnOk P w K mg base CX0 (k + 1) f fd ps (spF K ps.length (callFn N.length fb)) := by
  refine F.ok S (fun vs H Q E h => h.1) fun cdv A outer s H vs Q E hr h => ?_
  refine ⟨tS K fb, (hb cdv A outer s H E hr).nox, ?_⟩
  obtain ⟨hl, F0, Z, avs, r, outs, hf, hz, A0, e, k0⟩ := h
  have hn : vs.length ≤ N.length := by
    rw [hl, ← S.pre, List.length_take]
    omega
  have W := Wst.start (N := N) hf hz A0 hn
  have la := A0.length
  have hpa : ∀ i a ds, vs[i]? = some (.ref a) → avs[i]? = some (.own ds) → paOf vs avs (0 + i) = some a := fun i a ds e1 e2 => by
    unfold paOf
    rw [Nat.zero_add, e1, e2]
  have fin : ∀ (fl : Fl) (r0 : R) (env' : En) (o : List (List D)), outsOf avs 0 env' = some o → some (r0, o) = some (r, outs) → ∀ v σ' Z' H', Gr F0 Z Z' → Wst K F0 Z' H' (paOf vs avs) σ' env' → RkOk K F0 Z' H' σ' env' v r0 → Q v H' := fun fl r0 env' o eo er v σ' Z' H' g1 W1 q => by
    cases er
    obtain ⟨h1, h2⟩ := outs_ok W1 A0 hpa eo
    refine k0 v Z' H' g1 W1.fh W1.zh h1 ?_
    cases r with
    | val d => exact q
    | fresh ds =>
      obtain ⟨p, us, rfl, b1, b2, b3, b4, b5⟩ := q
      refine ⟨p, us, rfl, b1, b2, b3, fun hm => ?_, b4⟩
      obtain ⟨j, s', c1, c2, c3⟩ := h2 p hm
      exact b5 j _ s' c1 c2 c3
  unfold callFn at e
  split at e
  · rename_i r0 env' eb
    cases eo : outsOf avs 0 env' with
    | none => rw [eo] at e; cases e
    | some o =>
      rw [eo] at e
      exact ⟨F0, _, Z, _, _, env', W, eb, fin (.rt r0) r0 env' o eo e⟩
  · rename_i env' eb
    cases eo : outsOf avs 0 env' with
    | none => rw [eo] at e; cases e
    | some o =>
      rw [eo] at e
      exact ⟨F0, _, Z, _, _, env', W, eb, fun σ' Z' H' g1 W1 => fin .nx (.val .none) env' o eo e .non σ' Z' H' g1 W1 .non⟩
  · cases e
end Ev
namespace Ev
open PySem PySem.Spec PyProof.Rows L2
/-! ## plain arguments, displays -/
def tAd (K : PySem.W.Frag) (f : Fx (List D)) : TA := fun σ H Q => ∃ F pa Z env ds env', Wst K F Z H pa σ env ∧ f env = some (ds, env') ∧
  ∀ vs Z' H', Gr F Z Z' → Wst K F Z' H' pa σ env' → DpAll K Z' vs ds → Q vs H'
def dNil : Fx (List D) := fun env => some ([], env)
def dCons (f : Fx D) (g : Fx (List D)) : Fx (List D) := fun env => (f env).bind fun p => (g p.2).map fun q => (p.1 :: q.1, q.2)
section
variable {X : Cx} {e : Expr} {es : List Expr} {pos : Pos}
theorem s_dNil : PA X [] (tAd X.K dNil) := by
  refine PA.imp pa_nil fun σ H Q ⟨F, pa, Z, env, ds, env', W, h, k⟩ => ?_
  cases h
  exact k [] Z H (.refl ..) W .nil
theorem s_dCons {f : Fx D} {g : Fx (List D)} (h1 : PE X e (tE X.K f)) (h2 : PA X es (tAd X.K g)) (hs : starEach (e :: es) X.env = (false, eval e X.env) :: starEach es X.env) : PA X (e :: es) (tAd X.K (dCons f g)) := by
  refine PA.imp (pa_cons h1 h2 hs) fun σ H Q ⟨F, pa, Z, env, ds, env', W, h, k⟩ => ?_
  unfold dCons at h
  cases e1 : f env with
  | none => rw [e1] at h; cases h
  | some p =>
    rw [e1, Option.bind_some] at h
    cases e2 : g p.2 with
    | none => rw [e2] at h; cases h
    | some q =>
      rw [e2] at h
      cases h
      exact ⟨F, pa, Z, env, p.1, p.2, W, e1, fun v Z1 H1 g1 W1 q1 => ⟨F, pa, Z1, p.2, q.1, q.2, W1, e2, fun vs Z2 H2 g2 W2 q2 => k (v :: vs) Z2 H2 (g1.trans g2) W2 (.cons (Dp.mono g2.zz _ _ q1) q2)⟩⟩
def eTup (f : Fx (List D)) : Fx D := fun env => match f env with
  | some (ds, e) => if ds.length ≤ sizeLine then some (.tuple ds, e) else none
  | none => none
theorem s_tup {f : Fx (List D)} {k : Nat} (h : PA X es (tAd X.K f)) : PE X (.Tuple es k pos) (tE X.K (eTup f)) := by
  refine PE.imp (pe_tup h) fun σ H Q ⟨F, pa, Z, env, d, env', W, e, k⟩ => ?_
  unfold eTup at e
  split at e
  · rename_i ds env1 e1
    by_cases hl : ds.length ≤ sizeLine
    · rw [if_pos hl] at e
      cases e
      refine ⟨F, pa, Z, env, ds, _, W, e1, fun vs Z1 H1 g1 W1 q1 => ⟨by rw [da_length q1]; exact hl, fun p hp => ?_⟩⟩
      have al := Alc.new (o := .tup vs) W1.zh hp
      exact k _ _ _ (g1.trans (al.gr W1.fh)) (W1.alc al) (.tup (SqT.of upd_same) (DpAll.mono al.zz _ _ q1))
    · rw [if_neg hl] at e; cases e
  · cases e
/-- a new list at p, not yet frozen -/
theorem Wst.newL {K : PySem.W.Frag} {F Z H : Hp} {pa : Nat → Option Addr} {σ : L2.St} {env : En} {p : Addr} {us : List V} {ds : List D} (W : Wst K F Z H pa σ env) (hp : H p = none) (q : DpAll K Z us ds) :
    Wst K F Z (upd H p (.lst us)) pa σ env ∧ RkOk K F Z (upd H p (.lst us)) σ env (.ref p) (.fresh ds) := by
  have zp := W.zh.free hp
  have al : Alc Z H Z (upd H p (.lst us)) := ⟨Same.refl _, upd_none hp, fun b u e => by rw [upd_ne (fun z => by subst z; rw [zp] at e; cases e)]; exact W.zh b u e, fun _ _ => rfl⟩
  refine ⟨W.alc al, p, us, rfl, upd_same, zp, W.fh.free hp, q, fun i o s e1 e2 e3 => ?_⟩
  obtain ⟨us', b1, _⟩ := (W.sl i o s e1 e2).at_ e3
  rw [hp] at b1; cases b1
def eLst (f : Fx (List D)) : Fx R := fun env => match f env with
  | some (ds, e) => if ds.length ≤ sizeLine then some (.fresh ds, e) else none
  | none => none
theorem s_lst {f : Fx (List D)} (h : PA X es (tAd X.K f)) : PE X (.List es pos) (tR X.K (eLst f)) := by
  refine PE.imp (pe_lst h) fun σ H Q ⟨F, pa, Z, env, d, env', W, e, k⟩ => ?_
  unfold eLst at e
  split at e
  · rename_i ds env1 e1
    by_cases hl : ds.length ≤ sizeLine
    · rw [if_pos hl] at e
      cases e
      refine ⟨F, pa, Z, env, ds, _, W, e1, fun vs Z1 H1 g1 W1 q1 => ⟨by rw [da_length q1]; exact hl, fun p hp => ?_⟩⟩
      obtain ⟨W2, rk⟩ := W1.newL hp q1
      exact k _ _ _ g1 W2 rk
    · rw [if_neg hl] at e; cases e
  · cases e
/-- a list and a list: a new list -/
def eAddR (f g : Fx D) : Fx R := fun env => (f env).bind fun p => (g p.2).bind fun q => match p.1, q.1 with
  | .list xs, .list ys => if xs.length + ys.length ≤ sizeLine then some (.fresh (xs ++ ys), q.2) else none
  | _, _ => none
theorem s_addR {a b : Expr} {fa fb : Fx D} (ha : PE X a (tE X.K fa)) (hb : PE X b (tE X.K fb)) : PE X (.BinOp a .Add b pos) (tR X.K (eAddR fa fb)) := by
  refine PE.imp (pe_op op_catL ha hb) fun σ H Q ⟨F, pa, Z, env, r, env', W, e, k⟩ => ?_
  unfold eAddR at e
  cases e1 : fa env with
  | none => rw [e1] at e; cases e
  | some p =>
    rw [e1, Option.bind_some] at e
    cases e2 : fb p.2 with
    | none => rw [e2] at e; cases e
    | some q =>
      rw [e2, Option.bind_some] at e
      refine ⟨F, pa, Z, env, p.1, p.2, W, e1, fun v Z1 H1 g1 W1 q1 => ⟨F, pa, Z1, p.2, q.1, q.2, W1, e2, fun u Z2 H2 g2 W2 q2 => ?_⟩⟩
      generalize p.1 = d at q1 e
      generalize q.1 = d2 at q2 e
      have q3 := Dp.mono g2.zz _ _ q1
      cases q3 <;> (try (cases e; done))
      cases q2 <;> (try (cases e; done))
      rename_i b us ds hs da b2 us2 ds2 hs2 da2
      have e' : (if ds.length + ds2.length ≤ sizeLine then some (R.fresh (ds ++ ds2), q.2) else none) = some (r, env') := e
      by_cases h : ds.length + ds2.length ≤ sizeLine
      · rw [if_pos h] at e'; cases e'
        have l1 := da_length da
        have l2 := da_length da2
        refine ⟨b, b2, us, us2, rfl, rfl, W2.zh.seq hs, W2.zh.seq hs2, by omega, fun p hp => ?_⟩
        obtain ⟨W4, rk⟩ := W2.newL hp (da_append da da2)
        exact k _ Z2 _ (g1.trans g2) W4 rk
      · rw [if_neg h] at e'; cases e'
/-! ### items, slices -/
def gItem : D → D → Option D
  | .list ds, .int i => atI ds i
  | .tuple ds, .int i => atI ds i
  | .str z, .int i => if z.length ≤ sizeLine then (atI z.cps.toList i).map fun c => .str ⟨#[c]⟩ else none
  | _, _ => none
theorem atI_da {K : PySem.W.Frag} {Z : Hp} {vs : List V} {ds : List D} {i : Int} {d : D} (h : DpAll K Z vs ds) (e : atI ds i = some d) : ∃ v, atI vs i = some v ∧ Dp K Z v d := by
  unfold atI at e ⊢
  rw [da_length h]
  cases q : ixN ds.length i with
  | none => rw [q] at e; cases e
  | some j => rw [q, Option.bind_some] at e; exact da_get h e
theorem imp_item {K : PySem.W.Frag} : Imp2 K (rIx K) gItem := by
  intro Z H x y d e z Q zh q1 q2 hz k
  cases q2 <;> (try (cases q1 <;> (cases hz; done)))
  rename_i i
  cases q1 <;> (try (cases hz; done))
  · rename_i s
    have hz' : (if s.length ≤ sizeLine then (atI s.cps.toList i).map fun c => PyData.str ⟨#[c]⟩ else none) = some z := hz
    by_cases hl : s.length ≤ sizeLine
    · rw [if_pos hl] at hz'
      cases ea : atI s.cps.toList i with
      | none => rw [ea] at hz'; cases hz'
      | some c =>
        rw [ea] at hz'; cases hz'
        exact .inr (.inr ⟨s, i, c, rfl, rfl, hl, ea, k _ Z H (.refl zh) (.str _)⟩)
    · rw [if_neg hl] at hz'; cases hz'
  · rename_i a us ds hs ha
    obtain ⟨v, ev, dv⟩ := atI_da ha (show atI ds i = some z from hz)
    exact .inl ⟨a, us, i, v, rfl, rfl, zh.seq hs, ev, k v Z H (.refl zh) dv⟩
  · rename_i a us ds hs ha
    obtain ⟨v, ev, dv⟩ := atI_da ha (show atI ds i = some z from hz)
    exact .inr (.inl ⟨a, us, i, v, rfl, rfl, Same.sqT zh hs, ev, k v Z H (.refl zh) dv⟩)
theorem s_item {a b : Expr} {fa fb : Fx D} (ha : PE X a (tE X.K fa)) (hb : PE X b (tE X.K fb)) (hs : PlainIx b) : PE X (.Subscript a b pos) (tE X.K (eOp gItem fa fb)) :=
  PE.imp (pe_ix ix_seq ha hb hs) fun σ H Q h => tOp_of imp_item h
/-- x[e], x a slot's own list or any datum -/
def ownItem (i : Nat) : Option (D × En) → Option (D × En)
  | some (.int k, e) => (match e[i]? with
    | some (.own ds) => (atI ds k).map fun z => (z, e)
    | some (.par ds) => (atI ds k).map fun z => (z, e)
    | _ => none)
  | _ => none
def eItemN (i : Nat) (f : Fx D) : Fx D := fun env => match env[i]? with
  | some (.val d) => (f env).bind fun p => (gItem d p.1).map fun z => (z, p.2)
  | some (.own _) => ownItem i (f env)
  | some (.par _) => ownItem i (f env)
  | _ => none
theorem own_item {i : Nat} {fb : Fx D} {σ : L2.St} {H : Hp} {Q : VK} {F : Hp} {pa : Nat → Option Addr} {Z : Hp} {env env' : En} {d : D} {s : Sl} (W : Wst X.K F Z H pa σ env) (e0 : env[i]? = some s) (ow : isOwn s = true) (e : ownItem i (fb env) = some (d, env'))
    (k : ∀ (v : V) (Z' H' : Hp), Gr F Z Z' → Wst X.K F Z' H' pa σ env' → Dp X.K Z' v d → Q v H') : tOp (rIx X.K) (tVar i) (tE X.K fb) σ H Q := by
  obtain ⟨a, us0, ds0, ea, _⟩ := W.own_ref e0 ow
  unfold ownItem at e
  split at e
  · rename_i n env1 e1
    have fin : ∀ (s' : Sl) (ds : List D), env1[i]? = some s' → (s' = .own ds ∨ s' = .par ds) → (atI ds n).map (fun z => (z, env1)) = some (d, env') → tOp (rIx X.K) (tVar i) (tE X.K fb) σ H Q := fun s' ds es hs e => by
      cases e2 : atI ds n with
      | none => rw [e2] at e; cases e
      | some z =>
        rw [e2] at e
        cases e
        refine ⟨_, ea, F, pa, Z, env, _, _, W, e1, fun y Z1 H1 g1 W1 q1 => ?_⟩
        cases q1
        have so := W1.sl i _ _ ea es
        have : ∃ us, H1 a = some (.lst us) ∧ DpAll X.K Z1 us ds := by
          rcases hs with rfl | rfl
          · cases so with
            | own h1 _ _ h4 => exact ⟨_, h1, h4⟩
          · cases so with
            | par _ h1 _ _ h4 => exact ⟨_, h1, h4⟩
        obtain ⟨us, hH, da⟩ := this
        obtain ⟨v, ev, dv⟩ := atI_da da e2
        exact .inl ⟨a, us, n, v, rfl, rfl, SqL.of hH, ev, k v Z1 H1 g1 W1 dv⟩
    split at e
    · rename_i ds es; exact fin _ ds es (.inl rfl) e
    · rename_i ds es; exact fin _ ds es (.inr rfl) e
    · cases e
  · cases e
theorem s_itemN {i : Nat} {x : Str} {np : Pos} {b : Expr} {fb : Fx D} (ho : PE X (.Name x np) (tVar i)) (hb : PE X b (tE X.K fb)) (hs : PlainIx b) : PE X (.Subscript (.Name x np) b pos) (tE X.K (eItemN i fb)) := by
  refine PE.imp (pe_ix ix_seq ho hb hs) fun σ H Q ⟨F, pa, Z, env, d, env', W, e, k⟩ => ?_
  unfold eItemN at e
  split at e
  · rename_i d0 e0
    obtain ⟨o, eo, so⟩ := W.get e0
    cases so with
    | @val v _ dp =>
      cases e1 : fb env with
      | none => rw [e1] at e; cases e
      | some p =>
        rw [e1, Option.bind_some] at e
        cases e2 : gItem d0 p.1 with
        | none => rw [e2] at e; cases e
        | some z =>
          rw [e2] at e
          cases e
          refine ⟨v, eo, F, pa, Z, env, p.1, p.2, W, e1, fun y Z1 H1 g1 W1 q1 => ?_⟩
          exact imp_item Z1 H1 v y d0 p.1 d Q W1.zh (Dp.mono g1.zz _ _ dp) q1 e2 fun v Z2 H2 a q => k v Z2 H2 (g1.trans (a.gr W1.fh)) (W1.alc a) q
  · rename_i ds e0; exact own_item W e0 rfl e k
  · rename_i ds e0; exact own_item W e0 rfl e k
  · cases e
def eLenN (i : Nat) : Fx D := fun env => match env[i]? with
  | some (.val (.list ds)) => some (.int ds.length, env)
  | some (.val (.tuple ds)) => some (.int ds.length, env)
  | some (.val (.str z)) => if z.length ≤ sizeLine then some (.int z.length, env) else none
  | some (.own ds) => some (.int ds.length, env)
  | some (.par ds) => some (.int ds.length, env)
  | _ => none
def gLen : List D → Option D
  | [.list ds] => some (.int ds.length)
  | [.tuple ds] => some (.int ds.length)
  | [.str z] => if z.length ≤ sizeLine then some (.int z.length) else none
  | _ => none
/-! ### slices -/
def cutD (xs : List D) (lo hi : Option Int) : List D := (xs.drop (HT.sIx xs.length 0 lo)).take (HT.sIx xs.length xs.length hi - HT.sIx xs.length 0 lo)
theorem cut_da {K : PySem.W.Frag} {Z : Hp} {vs : List V} {ds : List D} (h : DpAll K Z vs ds) (lo hi : Option Int) : DpAll K Z (cutV vs lo hi) (cutD ds lo hi) := by
  unfold cutV cutD
  rw [da_length h]
  exact da_take _ (da_drop _ h)
def ePart : Option (Fx D) → Fx (Option Int)
  | none => fun env => some (none, env)
  | some f => fun env => match f env with
    | some (.int i, e) => some (some i, e)
    | _ => none
def tPt (K : PySem.W.Frag) (f : Fx (Option Int)) : TO := fun σ H Q => ∃ F pa Z env o env', Wst K F Z H pa σ env ∧ f env = some (o, env') ∧ ∀ Z' H', Gr F Z Z' → Wst K F Z' H' pa σ env' → Q o H'
theorem PO.imp {e : Option Expr} {t t' : TO} (h : PO X e t) (m : ∀ σ H Q, t' σ H Q → t σ H Q) : PO X e t' := ⟨fun pins s σ H Q I q => h.run pins s σ H Q I (m σ H Q q)⟩
theorem s_ptN : PO X none (tPt X.K (ePart none)) := by
  refine PO.imp po_none fun σ H Q ⟨F, pa, Z, env, o, env', W, e, k⟩ => ?_
  cases e
  exact k Z H (.refl ..) W
theorem s_ptS {f : Fx D} (h : PE X e (tE X.K f)) : PO X (some e) (tPt X.K (ePart (some f))) := by
  refine PO.imp (po_some h) fun σ H Q ⟨F, pa, Z, env, o, env', W, e, k⟩ => ?_
  unfold ePart at e
  dsimp only at e
  split at e
  · rename_i i e1 h1
    cases e
    refine ⟨F, pa, Z, env, _, _, W, h1, fun v Z' H' g1 W1 q => ?_⟩
    cases q
    exact ⟨i, rfl, k Z' H' g1 W1⟩
  · cases e
def eSlice (f : Fx D) (lo hi : Fx (Option Int)) : Fx R := fun env => (f env).bind fun p => (lo p.2).bind fun q => (hi q.2).bind fun r => match p.1 with
  | .list ds => some (.fresh (cutD ds q.1 r.1), r.2)
  | .tuple ds => some (.val (.tuple (cutD ds q.1 r.1)), r.2)
  | _ => none
theorem cut_whole {K : PySem.W.Frag} {ds : List D} {lo hi : Option Int} (h : HT.sIx ds.length 0 lo = 0 ∧ HT.sIx ds.length ds.length hi = ds.length) : cutD ds lo hi = ds := by
  unfold cutD
  rw [h.1, h.2]
  simp
theorem s_slice {a : Expr} {lo hi : Option Expr} {fa : Fx D} {fl fh : Fx (Option Int)} {p2 : Pos} (ha : PE X a (tE X.K fa)) (hl : PO X lo (tPt X.K fl)) (hh : PO X hi (tPt X.K fh)) : PE X (.Subscript a (.Slice lo hi none p2) pos) (tR X.K (eSlice fa fl fh)) := by
  refine PE.imp (pe_slice (SlR.or sl_list sl_tupA) ha hl hh) fun σ H Q ⟨F, pa, Z, env, r, env', W, e, k⟩ => ?_
  unfold eSlice at e
  cases e1 : fa env with
  | none => rw [e1] at e; cases e
  | some p =>
    rw [e1, Option.bind_some] at e
    cases e2 : fl p.2 with
    | none => rw [e2] at e; cases e
    | some q =>
      rw [e2, Option.bind_some] at e
      cases e3 : fh q.2 with
      | none => rw [e3] at e; cases e
      | some t =>
        rw [e3, Option.bind_some] at e
        refine ⟨F, pa, Z, env, p.1, p.2, W, e1, fun v Z1 H1 g1 W1 q1 => ⟨F, pa, Z1, p.2, q.1, q.2, W1, e2, fun Z2 H2 g2 W2 => ⟨F, pa, Z2, q.2, t.1, t.2, W2, e3, fun Z3 H3 g3 W3 => ?_⟩⟩⟩
        generalize p.1 = d at q1 e
        have q3 := Dp.mono (g2.zz.trans g3.zz) _ _ q1
        have gg := (g1.trans g2).trans g3
        cases q3 with
        | @lst b us ds hs da =>
          cases e
          refine .inl ⟨b, us, rfl, W3.zh.seq hs, fun p hp => ?_⟩
          obtain ⟨W4, rk⟩ := W3.newL hp (cut_da da q.1 t.1)
          exact k _ Z3 _ gg W4 rk
        | @tup b us ds hs da =>
          cases e
          have hl := da_length da
          refine .inr ⟨b, us, rfl, Same.sqT W3.zh hs, fun hw => ?_, fun _ p hp => ?_⟩
          · rw [hl] at hw
            exact k _ Z3 H3 gg W3 (show Dp X.K Z3 (.ref b) (.tuple (cutD ds q.1 t.1)) by rw [cut_whole (K := X.K) hw]; exact .tup hs da)
          · have al := Alc.new (o := .tup (cutV us q.1 t.1)) W3.zh hp
            exact k _ _ _ (gg.trans (al.gr W3.fh)) (W3.alc al) (.tup (SqT.of upd_same) (DpAll.mono al.zz _ _ (cut_da da q.1 t.1)))
        | _ => cases e
end
end Ev
namespace Ev
open PySem PySem.Spec PyProof.Rows L2
/-! ## built-ins -/
def ImpA (K : PySem.W.Frag) (r : List V → Hp → VK → Prop) (g : List D → Option D) : Prop := ∀ (Z H : Hp) (vs : List V) (ds : List D) (z : D) (Q : VK), Same Z H → DpAll K Z vs ds → g ds = some z →
  (∀ v Z' H', Alc Z H Z' H' → Dp K Z' v z → Q v H') → r vs H Q
def CallD (X : Cx) (f : Value) (g : List D → Option D) : Prop := ∃ r, CallR X f r ∧ ImpA X.K r g
theorem CallD.or {X : Cx} {f : Value} {g g' h : List D → Option D} (a : CallD X f g) (b : CallD X f g') (e : ∀ x z, h x = some z → g x = some z ∨ g' x = some z) : CallD X f h :=
  let ⟨r, h1, h2⟩ := a; let ⟨r', h1', h2'⟩ := b
  ⟨_, h1.or h1', fun Z H vs ds z Q zh q hz k => (e _ _ hz).elim (fun q' => .inl (h2 Z H vs ds z Q zh q q' k)) fun q' => .inr (h2' Z H vs ds z Q zh q q' k)⟩
def eBlt (g : List D → Option D) (f : Fx (List D)) : Fx D := fun env => (f env).bind fun p => (g p.1).map fun z => (z, p.2)
theorem tCB_of {K : PySem.W.Frag} {r : List V → Hp → VK → Prop} {g : List D → Option D} {f : Fx (List D)} (hi : ImpA K r g) {σ : L2.St} {H : Hp} {Q : VK} (h : tE K (eBlt g f) σ H Q) : tCB r (tAd K f) σ H Q := by
  obtain ⟨F, pa, Z, env, z, env', W, e, k⟩ := h
  unfold eBlt at e
  cases e1 : f env with
  | none => rw [e1] at e; cases e
  | some p =>
    rw [e1, Option.bind_some] at e
    cases e2 : g p.1 with
    | none => rw [e2] at e; cases e
    | some w =>
      rw [e2] at e
      cases e
      exact ⟨F, pa, Z, env, p.1, p.2, W, e1, fun vs Z1 H1 g1 W1 q => hi Z1 H1 vs p.1 z Q W1.zh q e2 fun v Z2 H2 a q2 => k v Z2 H2 (g1.trans (a.gr W1.fh)) (W1.alc a) q2⟩
/-- ints -/
def intsOf : List D → Option (List Int)
  | [] => some []
  | .int i :: ds => (intsOf ds).map fun r => i :: r
  | _ => none
theorem intsOf_da {K : PySem.W.Frag} {Z : Hp} : ∀ {vs : List V} {ds : List D} {ns : List Int}, DpAll K Z vs ds → intsOf ds = some ns → vs = ns.map V.int
  | _, _, _, .nil, e => by cases e; rfl
  | _, _, ns, .cons (d := d) (ds := ds) h t, e => by
    cases d with
    | int i =>
      cases e1 : intsOf ds with
      | none => rw [intsOf, e1] at e; cases e
      | some r =>
        rw [intsOf, e1] at e; cases e
        cases h
        rw [List.map_cons, intsOf_da t e1]
    | _ => cases e
def boolsOf : List D → Option (List Bool)
  | [] => some []
  | .bool b :: ds => (boolsOf ds).map fun r => b :: r
  | _ => none
theorem boolsOf_da {K : PySem.W.Frag} {Z : Hp} : ∀ {vs : List V} {ds : List D} {bs : List Bool}, DpAll K Z vs ds → boolsOf ds = some bs → vs = bs.map V.bl
  | _, _, _, .nil, e => by cases e; rfl
  | _, _, ns, .cons (d := d) (ds := ds) h t, e => by
    cases d with
    | bool i =>
      cases e1 : boolsOf ds with
      | none => rw [boolsOf, e1] at e; cases e
      | some r =>
        rw [boolsOf, e1] at e; cases e
        cases h
        rw [List.map_cons, boolsOf_da t e1]
    | _ => cases e
section
variable {X : Cx} {e : Expr} {es : List Expr} {p pos : Pos} {x : Str}
theorem s_callB {id : String} {g : List D → Option D} {f : Fx (List D)} (hc : CallD X (.builtin id) g) (hg : Gl X x) (hm : X.mg x = none) (hv : bootBuiltins x = some (.builtin id)) (ha : PA X (e :: es) (tAd X.K f)) (hn : x ≠ "__name__") (hdb : (x == ("__debug__" : Str)) = false)
    (he : starEach (e :: es) X.env = (false, eval e X.env) :: starEach es X.env) (hpl : (backTo pos (starEach es X.env)).any (·.1) = false) : PE X (.Call (.Name x p) (e :: es) [] pos) (tE X.K (eBlt g f)) := by
  obtain ⟨r, h1, h2⟩ := hc
  exact PE.imp (pe_callB h1 hg hm hv ha hn hdb he hpl) fun σ H Q h => tCB_of h2 h
theorem s_callT {T : String} {g : List D → Option D} {f : Fx (List D)} (hc : CallD X (.type T) g) (hg : Gl X x) (hm : X.mg x = none) (hv : bootBuiltins x = some (.type T)) (ha : PA X (e :: es) (tAd X.K f)) (hn : x ≠ "__name__") (hdb : (x == ("__debug__" : Str)) = false)
    (he : starEach (e :: es) X.env = (false, eval e X.env) :: starEach es X.env) (hpl : (backTo pos (starEach es X.env)).any (·.1) = false) : PE X (.Call (.Name x p) (e :: es) [] pos) (tE X.K (eBlt g f)) := by
  obtain ⟨r, h1, h2⟩ := hc
  exact PE.imp (pe_callTy h1 hg hm hv ha hn hdb he hpl) fun σ H Q h => tCB_of h2 h
theorem s_callG {id : String} {g : List D → Option D} {f : Fx (List D)} (hc : CallD X (.builtin id) g) (hg : Gl X x) (hm : X.mg x = some (.builtin id)) (ha : PA X (e :: es) (tAd X.K f)) (hdb : (x == ("__debug__" : Str)) = false)
    (he : starEach (e :: es) X.env = (false, eval e X.env) :: starEach es X.env) (hpl : (backTo pos (starEach es X.env)).any (·.1) = false) : PE X (.Call (.Name x p) (e :: es) [] pos) (tE X.K (eBlt g f)) := by
  obtain ⟨r, h1, h2⟩ := hc
  exact PE.imp (pe_callBfun h1 hg hm ha hdb he hpl) fun σ H Q h => tCB_of h2 h
theorem c_len : CallD X (.builtin "len") gLen := ⟨_, call_len_seq.or call_len_str, by
  intro Z H vs ds z Q zh q hz k
  cases q with
  | nil => cases hz
  | @cons v vs d ds h1 h2 =>
    cases h2 with
    | cons => cases h1 <;> cases hz
    | nil =>
      cases h1 with
      | lst hs ha => cases hz; exact .inl ⟨_, _, rfl, .inl (zh.seq hs), by rw [da_length ha]; exact k _ Z H (.refl zh) (.int _)⟩
      | tup hs ha => cases hz; exact .inl ⟨_, _, rfl, .inr (Same.sqT zh hs), by rw [da_length ha]; exact k _ Z H (.refl zh) (.int _)⟩
      | str z =>
        have hz' : (if z.length ≤ sizeLine then some (PyData.int z.length) else none) = some _ := hz
        by_cases hl : z.length ≤ sizeLine
        · rw [if_pos hl] at hz'; cases hz'; exact .inr ⟨z, rfl, hl, k _ Z H (.refl zh) (.int _)⟩
        · rw [if_neg hl] at hz'; cases hz'
      | _ => cases hz⟩
theorem s_lenN {i : Nat} {y : Str} {np : Pos} (ho : PE X (.Name y np) (tVar i)) (hg : Gl X "len") (hm : X.mg "len" = none) (he : starEach [.Name y np] X.env = (false, eval (.Name y np) X.env) :: starEach [] X.env) : PE X (.Call (.Name "len" p) [.Name y np] [] pos) (tE X.K (eLenN i)) := by
  refine PE.imp (pe_callB (call_len_seq.or call_len_str) hg hm PySem.boot_len (pa_cons ho pa_nil he) (by decide) (by decide) he rfl) fun σ H Q ⟨F, pa, Z, env, d, env', W, e, k⟩ => ?_
  unfold eLenN at e
  split at e
  · rename_i ds e0
    cases e
    obtain ⟨o, eo, so⟩ := W.get e0
    cases so with
    | val dp => cases dp with
      | lst hs ha => exact ⟨_, eo, .inl ⟨_, _, rfl, .inl (W.zh.seq hs), by rw [da_length ha]; exact k _ Z H (.refl ..) W (.int _)⟩⟩
  · rename_i ds e0
    cases e
    obtain ⟨o, eo, so⟩ := W.get e0
    cases so with
    | val dp => cases dp with
      | tup hs ha => exact ⟨_, eo, .inl ⟨_, _, rfl, .inr (Same.sqT W.zh hs), by rw [da_length ha]; exact k _ Z H (.refl ..) W (.int _)⟩⟩
  · rename_i z e0
    by_cases hl : z.length ≤ sizeLine
    · rw [if_pos hl] at e
      cases e
      obtain ⟨o, eo, so⟩ := W.get e0
      cases so with
      | val dp => cases dp; exact ⟨_, eo, .inr ⟨z, rfl, hl, k _ Z H (.refl ..) W (.int _)⟩⟩
    · rw [if_neg hl] at e; cases e
  · rename_i ds e0
    cases e
    obtain ⟨o, eo, so⟩ := W.get e0
    cases so with
    | own h1 _ _ h4 => exact ⟨_, eo, .inl ⟨_, _, rfl, .inl (SqL.of h1), by rw [da_length h4]; exact k _ Z H (.refl ..) W (.int _)⟩⟩
  · rename_i ds e0
    cases e
    obtain ⟨o, eo, so⟩ := W.get e0
    cases so with
    | par _ h1 _ _ h4 => exact ⟨_, eo, .inl ⟨_, _, rfl, .inl (SqL.of h1), by rw [da_length h4]; exact k _ Z H (.refl ..) W (.int _)⟩⟩
  · cases e
/-! ### ints -/
def g1I (f : Int → D) : List D → Option D
  | [.int i] => some (f i)
  | _ => none
theorem one_int {K : PySem.W.Frag} {Z : Hp} {vs : List V} {ds : List D} {f : Int → D} {z : D} (q : DpAll K Z vs ds) (h : g1I f ds = some z) : ∃ i, vs = [.int i] ∧ z = f i := by
  unfold g1I at h
  split at h
  · rename_i i
    cases h
    cases q with
    | cons h1 h2 => cases h1; cases h2; exact ⟨i, rfl, rfl⟩
  · cases h
def g2I (c : Int → Int → Bool) (f : Int → Int → D) : List D → Option D
  | [.int i, .int j] => if c i j = true then some (f i j) else none
  | _ => none
theorem two_int {K : PySem.W.Frag} {Z : Hp} {vs : List V} {ds : List D} {c : Int → Int → Bool} {f : Int → Int → D} {z : D} (q : DpAll K Z vs ds) (h : g2I c f ds = some z) : ∃ i j, vs = [.int i, .int j] ∧ c i j = true ∧ z = f i j := by
  unfold g2I at h
  split at h
  · rename_i i j
    by_cases hc : c i j = true
    · rw [if_pos hc] at h
      cases h
      cases q with
      | cons h1 h2 =>
        cases h2 with
        | cons h3 h4 => cases h1; cases h3; cases h4; exact ⟨i, j, rfl, hc, rfl⟩
    · rw [if_neg hc] at h; cases h
  · cases h
def gAbs : List D → Option D := g1I fun i => .int (if i < 0 then -i else i)
theorem c_abs : CallD X (.builtin "abs") gAbs := ⟨_, call_abs, by
  intro Z H vs ds z Q zh q hz k
  obtain ⟨i, rfl, rfl⟩ := one_int q hz
  exact ⟨i, rfl, k _ Z H (.refl zh) (.int _)⟩⟩
def gInt : List D → Option D := g1I fun i => .int i
theorem c_int : CallD X (.type "int") gInt := ⟨_, call_int1, by
  intro Z H vs ds z Q zh q hz k
  obtain ⟨i, rfl, rfl⟩ := one_int q hz
  exact .inl ⟨i, rfl, k _ Z H (.refl zh) (.int _)⟩⟩
def gMin2 : List D → Option D := g2I (fun _ _ => true) fun i j => .int (if j < i then j else i)
theorem c_min2 (hc : X.calm = true) : CallD X (.builtin "min") gMin2 := ⟨_, call_min2 hc, by
  intro Z H vs ds z Q zh q hz k
  obtain ⟨i, j, rfl, _, rfl⟩ := two_int q hz
  exact ⟨i, j, rfl, k _ Z H (.refl zh) (.int _)⟩⟩
def gMax2 : List D → Option D := g2I (fun _ _ => true) fun i j => .int (if j > i then j else i)
theorem c_max2 (hc : X.calm = true) : CallD X (.builtin "max") gMax2 := ⟨_, call_max2 hc, by
  intro Z H vs ds z Q zh q hz k
  obtain ⟨i, j, rfl, _, rfl⟩ := two_int q hz
  exact ⟨i, j, rfl, k _ Z H (.refl zh) (.int _)⟩⟩
def minL : List Int → Option Int
  | [] => none
  | n :: ns => some (ns.foldl min n)
def maxL : List Int → Option Int
  | [] => none
  | n :: ns => some (ns.foldl max n)
theorem foldl_min_le : ∀ (ns : List Int) (n : Int), ns.foldl min n ≤ n ∧ (∀ y ∈ ns, ns.foldl min n ≤ y) ∧ (ns.foldl min n = n ∨ ns.foldl min n ∈ ns)
  | [], n => ⟨Int.le_refl _, fun _ h => (by cases h), .inl rfl⟩
  | m :: ns, n => by
    obtain ⟨h1, h2, h3⟩ := foldl_min_le ns (min n m)
    rw [List.foldl_cons]
    refine ⟨by omega, fun y hy => ?_, ?_⟩
    · rcases List.mem_cons.mp hy with rfl | hy
      · omega
      · exact h2 y hy
    · rcases h3 with h | h
      · rw [h]
        by_cases q : n ≤ m
        · exact .inl (by omega)
        · exact .inr (by rw [show min n m = m by omega]; exact List.mem_cons_self ..)
      · exact .inr (List.mem_cons_of_mem _ h)
theorem foldl_max_le : ∀ (ns : List Int) (n : Int), n ≤ ns.foldl max n ∧ (∀ y ∈ ns, y ≤ ns.foldl max n) ∧ (ns.foldl max n = n ∨ ns.foldl max n ∈ ns)
  | [], n => ⟨Int.le_refl _, fun _ h => (by cases h), .inl rfl⟩
  | m :: ns, n => by
    obtain ⟨h1, h2, h3⟩ := foldl_max_le ns (max n m)
    rw [List.foldl_cons]
    refine ⟨by omega, fun y hy => ?_, ?_⟩
    · rcases List.mem_cons.mp hy with rfl | hy
      · omega
      · exact h2 y hy
    · rcases h3 with h | h
      · rw [h]
        by_cases q : m ≤ n
        · exact .inl (by omega)
        · exact .inr (by rw [show max n m = m by omega]; exact List.mem_cons_self ..)
      · exact .inr (List.mem_cons_of_mem _ h)
theorem minL_eq {ns : List Int} {m : Int} (h1 : m ∈ ns) (h2 : ∀ y ∈ ns, m ≤ y) : minL ns = some m := by
  cases ns with
  | nil => cases h1
  | cons n ns =>
    obtain ⟨a, b, c⟩ := foldl_min_le ns n
    have : ns.foldl min n = m := by
      have q1 : ns.foldl min n ≤ m := (List.mem_cons.mp h1).elim (fun e => by rw [e]; exact a) (b m)
      have q2 : m ≤ ns.foldl min n := c.elim (fun e => by rw [e]; exact h2 n (List.mem_cons_self ..)) fun e => h2 _ (List.mem_cons_of_mem _ e)
      omega
    rw [minL, this]
theorem maxL_eq {ns : List Int} {m : Int} (h1 : m ∈ ns) (h2 : ∀ y ∈ ns, y ≤ m) : maxL ns = some m := by
  cases ns with
  | nil => cases h1
  | cons n ns =>
    obtain ⟨a, b, c⟩ := foldl_max_le ns n
    have : ns.foldl max n = m := by
      have q1 : m ≤ ns.foldl max n := (List.mem_cons.mp h1).elim (fun e => by rw [e]; exact a) (b m)
      have q2 : ns.foldl max n ≤ m := c.elim (fun e => by rw [e]; exact h2 n (List.mem_cons_self ..)) fun e => h2 _ (List.mem_cons_of_mem _ e)
      omega
    rw [maxL, this]
def gL1 (f : List Int → Option D) : List D → Option D
  | [.list ds] => (intsOf ds).bind f
  | _ => none
theorem one_ints {K : PySem.W.Frag} {Z : Hp} {vs : List V} {ds : List D} {f : List Int → Option D} {z : D} (q : DpAll K Z vs ds) (h : gL1 f ds = some z) : ∃ a ns, vs = [.ref a] ∧ SqL K Z a (ns.map V.int) ∧ f ns = some z := by
  unfold gL1 at h
  split at h
  · rename_i ds
    cases e : intsOf ds with
    | none => rw [e] at h; cases h
    | some ns =>
      rw [e, Option.bind_some] at h
      cases q with
      | cons h1 h2 =>
        cases h2
        cases h1 with
        | @lst a us _ hs ha => exact ⟨a, ns, rfl, by rw [← intsOf_da ha e]; exact hs, h⟩
  · cases h
def gMinL : List D → Option D := gL1 fun ns => (minL ns).map fun n => .int n
theorem c_minL (hc : X.calm = true) : CallD X (.builtin "min") gMinL := ⟨_, cr_min hc, by
  intro Z H vs ds z Q zh q hz k
  obtain ⟨a, ns, rfl, hs, hf⟩ := one_ints q hz
  cases e : minL ns with
  | none => rw [e] at hf; cases hf
  | some n =>
    rw [e] at hf; cases hf
    refine ⟨a, ns, rfl, zh.seq hs, ?_, fun m h1 h2 => ?_⟩
    · cases ns with
      | nil => cases e
      | cons => simp
    · rw [minL_eq h1 h2] at e; cases e
      exact k _ Z H (.refl zh) (.int _)⟩
def gMaxL : List D → Option D := gL1 fun ns => (maxL ns).map fun n => .int n
theorem c_maxL (hc : X.calm = true) : CallD X (.builtin "max") gMaxL := ⟨_, cr_max hc, by
  intro Z H vs ds z Q zh q hz k
  obtain ⟨a, ns, rfl, hs, hf⟩ := one_ints q hz
  cases e : maxL ns with
  | none => rw [e] at hf; cases hf
  | some n =>
    rw [e] at hf; cases hf
    refine ⟨a, ns, rfl, zh.seq hs, ?_, fun m h1 h2 => ?_⟩
    · cases ns with
      | nil => cases e
      | cons => simp
    · rw [maxL_eq h1 h2] at e; cases e
      exact k _ Z H (.refl zh) (.int _)⟩
def gMin : List D → Option D
  | [a] => gMinL [a]
  | ds => gMin2 ds
def gMax : List D → Option D
  | [a] => gMaxL [a]
  | ds => gMax2 ds
theorem c_min (hc : X.calm = true) : CallD X (.builtin "min") gMin := (c_minL hc).or (c_min2 hc) fun x z h => by
  unfold gMin at h
  split at h
  · exact .inl h
  · exact .inr h
theorem c_max (hc : X.calm = true) : CallD X (.builtin "max") gMax := (c_maxL hc).or (c_max2 hc) fun x z h => by
  unfold gMax at h
  split at h
  · exact .inl h
  · exact .inr h
def gSum : List D → Option D := gL1 fun ns => some (.int ns.sum)
theorem c_sum (hc : X.calm = true) : CallD X (.builtin "sum") gSum := ⟨_, cr_sum hc, by
  intro Z H vs ds z Q zh q hz k
  obtain ⟨a, ns, rfl, hs, hf⟩ := one_ints q hz
  cases hf
  exact ⟨a, ns, rfl, zh.seq hs, k _ Z H (.refl zh) (.int _)⟩⟩
def gB1 (f : List Bool → D) : List D → Option D
  | [.list ds] => (boolsOf ds).map f
  | _ => none
theorem one_bools {K : PySem.W.Frag} {Z : Hp} {vs : List V} {ds : List D} {f : List Bool → D} {z : D} (q : DpAll K Z vs ds) (h : gB1 f ds = some z) : ∃ a bs, vs = [.ref a] ∧ SqL K Z a (bs.map V.bl) ∧ z = f bs := by
  unfold gB1 at h
  split at h
  · rename_i ds
    cases e : boolsOf ds with
    | none => rw [e] at h; cases h
    | some bs =>
      rw [e] at h; cases h
      cases q with
      | cons h1 h2 =>
        cases h2
        cases h1 with
        | @lst a us _ hs ha => exact ⟨a, bs, rfl, by rw [← boolsOf_da ha e]; exact hs, rfl⟩
  · cases h
def gAll : List D → Option D := gB1 fun bs => .bool (bs.all id)
def gAny : List D → Option D := gB1 fun bs => .bool (bs.any id)
theorem c_all (hc : X.calm = true) : CallD X (.builtin "all") gAll := ⟨_, cr_all hc, by
  intro Z H vs ds z Q zh q hz k
  obtain ⟨a, bs, rfl, hs, rfl⟩ := one_bools q hz
  exact ⟨a, bs, rfl, zh.seq hs, k _ Z H (.refl zh) (.bl _)⟩⟩
theorem c_any (hc : X.calm = true) : CallD X (.builtin "any") gAny := ⟨_, cr_any hc, by
  intro Z H vs ds z Q zh q hz k
  obtain ⟨a, bs, rfl, hs, rfl⟩ := one_bools q hz
  exact ⟨a, bs, rfl, zh.seq hs, k _ Z H (.refl zh) (.bl _)⟩⟩
def gDivmod : List D → Option D := g2I (fun _ j => decide (0 < j) && decide (j < 1073741824)) fun i j => .tuple [.int (i / j), .int (i % j)]
theorem c_divmod : CallD X (.builtin "divmod") gDivmod := ⟨_, call_divmod, by
  intro Z H vs ds z Q zh q hz k
  obtain ⟨i, j, rfl, hc, rfl⟩ := two_int q hz
  simp only [Bool.and_eq_true, decide_eq_true_eq] at hc
  refine ⟨i, j, rfl, hc, fun p hp => ?_⟩
  have al := Alc.new (o := .tup [.int (i / j), .int (i % j)]) zh hp
  exact k _ _ _ al (.tup (SqT.of upd_same) (.cons (.int _) (.cons (.int _) .nil)))⟩
def gTuple : List D → Option D
  | [.list ds] => some (.tuple ds)
  | [.tuple ds] => some (.tuple ds)
  | _ => none
theorem c_tuple : CallD X (.type "tuple") gTuple := ⟨_, call_tuple_of, by
  intro Z H vs ds z Q zh q hz k
  unfold gTuple at hz
  split at hz
  · cases hz
    cases q with
    | cons h1 h2 =>
      cases h2
      cases h1 with
      | @lst a us _ hs ha =>
        refine ⟨a, us, rfl, .inl ⟨zh.seq hs, fun l hl => ?_⟩⟩
        have al := Alc.new (o := .tup us) zh hl
        exact k _ _ _ al (.tup (SqT.of upd_same) (DpAll.mono al.zz _ _ ha))
  · cases hz
    cases q with
    | cons h1 h2 =>
      cases h2
      cases h1 with
      | @tup a us _ hs ha => exact ⟨a, us, rfl, .inr ⟨Same.sqT zh hs, k _ Z H (.refl zh) (.tup hs ha)⟩⟩
  · cases hz⟩
def gGcd2 : List D → Option D := g2I (fun _ _ => true) fun i j => .int (Nat.gcd i.natAbs j.natAbs)
theorem c_gcd2 : CallD X (.builtin "math.gcd") gGcd2 := ⟨_, cr_gcd, by
  intro Z H vs ds z Q zh q hz k
  obtain ⟨i, j, rfl, _, rfl⟩ := two_int q hz
  exact ⟨i, j, rfl, k _ Z H (.refl zh) (.int _)⟩⟩
theorem args_gcd3 (a b c : Value) : argsOk "math.gcd" ⟨[a, b, c], []⟩ := by unfold argsOk; kernel_rfl
theorem run_gcd3 (a : Int) (t : Tok) (b : Int) (u : Tok) (c : Int) (v : Tok) :
    Gives (Builtin.«math.gcd» ⟨[.int a t, .int b u, .int c v], []⟩) (.int (((((Nat.gcd 0 a.natAbs).gcd b.natAbs).gcd c.natAbs : Nat) : Int))) :=
  .of_wp fun M A E s Q h => by obtain ⟨hp, g, d, tk, os⟩ := s; wp_walk; exact ⟨_, rfl, h⟩
def gcd3 (a b c : Int) : Nat := (a.natAbs.gcd b.natAbs).gcd c.natAbs
theorem cr_gcd3 : CallR X (.builtin "math.gcd") (fun vs H Q => ∃ a b c : Int, vs = [.int a, .int b, .int c] ∧ Q (.int ((gcd3 a b c : Nat) : Int)) H) := by
  intro pins s σ H vs us Q I r h
  obtain ⟨a, b, c, rfl, q⟩ := h
  cases r with
  | cons r1 rr =>
    cases rr with
    | cons r2 rr =>
      cases rr with
      | cons r3 rr =>
        cases rr
        obtain ⟨t, rfl⟩ := r1
        obtain ⟨u, rfl⟩ := r2
        obtain ⟨v, rfl⟩ := r3
        have g := run_gcd3 a t b u c v
        rw [Nat.gcd_zero_left] at g
        exact PySem.call_function_meets PySem.W.MGF.kind_gcd PySem.W.MGF.plain_gcd PySem.W.MGF.entry_gcd (args_gcd3 _ _ _) g.meets ⟨.int _, H, I.tok _, ⟨_, rfl⟩, q⟩
def gGcd3 : List D → Option D
  | [.int a, .int b, .int c] => some (.int (gcd3 a b c : Nat))
  | _ => none
theorem c_gcd3 : CallD X (.builtin "math.gcd") gGcd3 := ⟨_, cr_gcd3, by
  intro Z H vs ds z Q zh q hz k
  unfold gGcd3 at hz
  split at hz
  · cases hz
    cases q with
    | cons h1 h2 =>
      cases h2 with
      | cons h3 h4 =>
        cases h4 with
        | cons h5 h6 =>
          cases h6; cases h1; cases h3; cases h5
          exact ⟨_, _, _, rfl, k _ Z H (.refl zh) (.int _)⟩
  · cases hz⟩
def gGcd : List D → Option D
  | [.int a, .int b, .int c] => some (.int (gcd3 a b c : Nat))
  | ds => gGcd2 ds
theorem c_gcd : CallD X (.builtin "math.gcd") gGcd := c_gcd3.or c_gcd2 fun x z h => by
  unfold gGcd at h
  split at h
  · exact .inl h
  · exact .inr h
end
end Ev
namespace Ev
open PySem PySem.Spec PyProof.Rows L2
/-! ## ranges of great numbers -/
theorem turn_long {P : Program} {w : World} {K : PySem.W.Frag} {tg : Expr} (q : Addr) (lo : Int) (n : Nat) :
    Turn P w K tg (Itr lo n) [q] q (fun i h => IsLongIter h q (lo + (i : Nat) * 1) ((n : Int) - (i : Nat)) 1) where
  mem := List.mem_singleton.mpr rfl
  obj := fun i h st b hb => by
    cases List.mem_singleton.mp hb
    refine ⟨_, st, fun v z => ?_⟩
    have z2 : Data.fields _ = Data.cell v := z
    cases z2
  keep := fun i h h2 st k => k q (List.mem_singleton.mpr rfl) _ st
  item := by
    intro X hP hw hK hc i pins s σ H E I hf st hg
    subst hP hw hK
    obtain ⟨a0, a1, a2, a3, a4, a5⟩ := hf q (List.mem_singleton.mpr rfl)
    have wk := Walks.longrange (prog := X.prog) (w := X.w) (I.ok.hd hc) q lo 1 n
    refine wk.item i s _ _ hg st fun v h2 tk hv st2 kk => ?_
    obtain ⟨t, rfl⟩ := hv
    have I2 : Inv X pins σ H { s with heap := h2, toks := tk } := I.turned (fun b o hb e => kk b o (by simpa using hb) e) a0 a1 a3 a4 a5
    exact ⟨_, rfl, go_of (s := { s with heap := h2, toks := tk }) (n := "longrange_iterator") st2 rfl rfl (by decide) ⟨.int (lo + i), H, I2, ⟨t, by rw [Int.mul_one]⟩, ⟨rfl, rfl⟩, st2, fun b hb => (hf b hb).1⟩⟩
  done := by
    intro X hP hw hK hc i pins s σ H E I hf st hg
    subst hP hw hK
    obtain ⟨a0, a1, a2, a3, a4, a5⟩ := hf q (List.mem_singleton.mpr rfl)
    have hn : n ≤ i := hg
    exact wpAny_pyNext_long_end (I.ok.hd hc) st (by omega) fun h2 eb => ⟨rfl, I.turned (t' := s.toks) (fun b o hb e => eb b o hb e) a0 a1 a3 a4 a5⟩
  self := fun _ _ _ _ _ st h => wpAny_pyIter_longiter st h
def iRg (tr : L2.St → Hp → (Int → Int → Hp → Prop) → Prop) : TI := fun σ H R => tr σ H fun a b H1 => R (Itr a (b - a).toNat) H1
theorem pi_rg {X : Cx} {tg e : Expr} {tr : L2.St → Hp → (Int → Int → Hp → Prop) → Prop} (he : PRg X e tr) : PI X tg e (iRg tr) := by
  refine ⟨fun pins s σ H R I h => ?_⟩
  refine thn (he pins s σ H _ I h) fun u s1 hx => ?_
  obtain ⟨r, a, b, t, w1, v, H1, eu, hr, I1, q⟩ := hx
  subst eu
  have hn : Builtin.Range.rangeSize a b 1 = (((b - a).toNat : Nat) : Int) := rangeSize_nat a b
  cases hs : Builtin.Range.small a b 1 with
  | true =>
    refine wpAny_pyIter_range hr hs ?_
    refine pi_one (tk := s1.toks) I1 _ (turn_range _ a (b - a).toNat) ?_ q
    rw [hn]
    show IsRangeIter _ _ (a + ((0 : Nat) : Int) * 1) ((((b - a).toNat : Nat) : Int) - ((0 : Nat) : Int)) 1
    rw [show a + ((0 : Nat) : Int) * 1 = a by omega, show (((b - a).toNat : Nat) : Int) - ((0 : Nat) : Int) = (((b - a).toNat : Nat) : Int) by omega]
    exact Heap.get?_push_size _ rfl
  | false =>
    refine wpAny_pyIter_longrange hr hs ?_
    refine pi_one (tk := s1.toks) I1 _ (turn_long _ a (b - a).toNat) ?_ q
    rw [hn]
    show IsLongIter _ _ (a + ((0 : Nat) : Int) * 1) ((((b - a).toNat : Nat) : Int) - ((0 : Nat) : Int)) 1
    rw [show a + ((0 : Nat) : Int) * 1 = a by omega, show (((b - a).toNat : Nat) : Int) - ((0 : Nat) : Int) = (((b - a).toNat : Nat) : Int) by omega]
    exact Heap.get?_push_size _ rfl
end Ev
namespace PySem
section
variable {prog : Program} {w : World} {A : Around} {E : Value → Shared → Prop} {s : Shared}
/-- a list takes up a range of great numbers -/
theorem ev_extend_long {R : Result → Shared → Prop} {g : Addr} {x y z : Int} {t1 t2 t3 : Tok} {k : Nat} (hA : A.handled = none) (hg : IsRange s.heap g x y z t1 t2 t3) (hb : Builtin.Range.small x y z = false)
    (hk : Builtin.Range.rangeSize x y z = k) (hm : k ≤ 2 ^ 24) (L : Addr) (res : Value) (c0 : Nat) (hL : s.heap.get? L = some { cls := .type "list", data := .seq #[] c0 })
    (hR : ∀ h2 tk acc c2, (∀ b o, b ≠ L → s.heap.get? b = some o → h2.get? b = some o) → h2.get? L = some { cls := .type "list", dict := none, data := .seq acc c2, slots := #[] } → ItemsOf (fun i v => ∃ t, v = .int (x + i * z) t) acc k → R (.ok (.ret res)) { s with heap := h2, toks := tk }) :
    wpAny (model prog w) A.in1 (Builtin.List.listExtendWith (.ref L) (.ref g) res) (fun fin s2 => match fin with | .done f => R (.ok f) s2 | .again c => c.quiet = true ∧ codeAny (model prog w) A c R s2) (fun e s2 => R (.error e) s2) s := by
  have ne1 : L ≠ g := fun e => by rw [e, hg] at hL; simp at hL
  have lt1 : L < s.heap.objs.size := Heap.lt_size hL
  have ne2 : L ≠ s.heap.objs.size := Nat.ne_of_lt lt1
  have nm : L ∉ [s.heap.objs.size] := fun q => ne2 (List.mem_singleton.mp q)
  have wk := (Walks.longrange (prog := prog) (w := w) (A := A.in1) hA s.heap.objs.size x z k).toS
  have key : ∀ (h : Heap) (c1 tk : Nat), IsLongIter h s.heap.objs.size (x + ((0 : Nat) : Int) * z) ((k : Int) - ((0 : Nat) : Int)) z → (∀ b o, b ≠ L → s.heap.get? b = some o → h.get? b = some o) → h.get? L = some { cls := .type "list", data := .seq #[] c1 } →
      codeAny (model prog w) A (.builtin "list.extend.loop" ⟨[.ref L, .ref s.heap.objs.size, res], []⟩) R { s with heap := h, toks := tk } := by
    intro h c1 tk it kp h1
    refine codeAny_extend_loopS wk (by rw [sizeLine_eq]; omega) L nm res k 0 _ #[] c1 rfl (Nat.zero_le _) it h1 (ItemsOf.nil _) fun s2 acc c2 mv h3 ha => ?_
    rw [Moved.eq_with mv]
    refine hR s2.heap s2.toks acc c2 (fun b o nb e => mv.heap b o (fun q => ?_) (kp b o nb e)) h3 ha
    rcases List.mem_cons.mp q with q2 | q2
    · exact nb q2
    · exact absurd (Heap.lt_size e) (by rw [List.mem_singleton.mp q2]; exact Nat.lt_irrefl _)
  unfold Builtin.List.listExtendWith
  refine wpAny_bind (wpAny_typeOf (T := "range") ⟨_, hg, rfl⟩ ?_)
  have d1 : Builtin.List.listSameRef (.ref L) (.ref g) = false := by simp [Builtin.List.listSameRef, ne1]
  have d2 : (Value.type "range" == Value.type "list") = false ∧ (Value.type "range" == Value.type "tuple") = false := ⟨by decide, by decide⟩
  simp only [d1, d2.1, d2.2, Bool.or_false, Bool.false_eq_true, if_false]
  refine wpAny_bind (wpAny_pyIter_longrange hg hb ?_)
  refine wpAny_bind (wpAny_holding (wpAny_hint_range (n := k) (Heap.get?_push_of_some _ hg) hk hm ?_))
  have i1 : IsLongIter (s.heap.push { cls := .type "longrange_iterator", data := .fields #[rawInt x, rawInt (Builtin.Range.rangeSize x y z), rawInt z] }) s.heap.objs.size (x + ((0 : Nat) : Int) * z) ((k : Int) - ((0 : Nat) : Int)) z := by
    show IsLongIter _ _ _ _ _
    rw [hk]
    simpa using Heap.get?_push_size _ rfl
  have g1 := Heap.get?_push_of_some { cls := .type "longrange_iterator", data := .fields #[rawInt x, rawInt (Builtin.Range.rangeSize x y z), rawInt z] } hL
  refine wpAny_ite_split (fun _ => ?_) (fun _ => wpAny_pure ⟨plainId_quiet F.plain_extend_loop _, key _ c0 _ i1 (fun b o _ e => Heap.get?_push_of_some _ e) g1⟩)
  refine wpAny_bind (wpAny_rule (wpAny_bind ?_))
  show wpAny _ _ (updateSeq L (·.push .none) >>= fun _ => updateSeq L (·.pop)) _ _ _
  refine wpAny_bind (wpAny_updateSeq g1 rfl ?_)
  have g2 := Heap.get?_update_self (Obj.mapSeq (·.push Value.none)) g1 rfl
  refine wpAny_updateSeq (hz := by seq_fits) g2 rfl ?_
  have g3 := Heap.get?_update_self (Obj.mapSeq (·.pop)) g2 rfl
  refine wpAny_pure ⟨plainId_quiet F.plain_extend_loop _, key _ _ _ ?_ (fun b o nb e => ?_) g3⟩
  · exact (Heap.get?_update_other _ _ ne2).trans ((Heap.get?_update_other _ _ ne2).trans i1)
  · exact (Heap.get?_update_other _ _ (Ne.symm nb)).trans ((Heap.get?_update_other _ _ (Ne.symm nb)).trans (Heap.get?_push_of_some _ e))
theorem ev_init_long {R : Result → Shared → Prop} {g : Addr} {x y z : Int} {t1 t2 t3 : Tok} {k : Nat} (hA : A.handled = none) (hg : IsRange s.heap g x y z t1 t2 t3) (hb : Builtin.Range.small x y z = false)
    (hk : Builtin.Range.rangeSize x y z = k) (hm : k ≤ 2 ^ 24) (L : Addr) (hL : s.heap.get? L = some { cls := .type "list", data := .seq #[] })
    (hR : ∀ h2 tk acc c2, (∀ b o, b ≠ L → s.heap.get? b = some o → h2.get? b = some o) → h2.get? L = some { cls := .type "list", dict := none, data := .seq acc c2, slots := #[] } → ItemsOf (fun i v => ∃ t, v = .int (x + i * z) t) acc k → R (.ok (.ret .none)) { s with heap := h2, toks := tk }) :
    wpAny (model prog w) A.in1 (Builtin.«list.__init__» ⟨[.ref L, .ref g], []⟩) (fun fin s2 => match fin with | .done f => R (.ok f) s2 | .again c => c.quiet = true ∧ codeAny (model prog w) A c R s2) (fun e s2 => R (.error e) s2) s := by
  have ne1 : L ≠ g := fun e => by rw [e, hg] at hL; simp at hL
  show wpAny _ _ (do let was ← Builtin.List.listItems (.ref L); Builtin.List.listUpdate (.ref L) (fun _ => #[]); letGo was.toList.reverse; Builtin.List.listExtendWith (.ref L) (.ref g) .none) _ _ s
  refine wpAny_bind ?_
  unfold Builtin.List.listItems
  refine wpAny_bind (wpAny_seqItems hL rfl (wpAny_pure ?_))
  show wpAny _ _ (updateSeq L (fun _ => #[]) >>= fun _ => letGo (#[] : Array Value).toList.reverse >>= fun _ => Builtin.List.listExtendWith (.ref L) (.ref g) .none) _ _ s
  refine wpAny_bind (wpAny_updateSeq hL rfl ?_)
  have g2 := Heap.get?_update_self (Obj.mapSeq (fun _ => (#[] : Array Value))) hL rfl
  have oth : ∀ b o, b ≠ L → s.heap.get? b = some o → (s.heap.update L (Obj.mapSeq (fun _ => (#[] : Array Value)))).get? b = some o := fun b o nb e => (Heap.get?_update_other _ _ (Ne.symm nb)).trans e
  refine wpAny_bind (wpAny_letGo ?_)
  refine ev_extend_long hA (oth g _ (Ne.symm ne1) hg) hb hk hm L .none _ g2 fun h2 tk acc c2 kp h3 ha => ?_
  exact hR h2 tk acc c2 (fun b o nb e => kp b o nb (oth b o nb e)) h3 ha
end
section
variable {prog : Program} {w : World} {A : Around} {E : Value → Shared → Prop} {s : Shared}
theorem ev_list_long {Q : Value → Shared → Prop} {g : Addr} {x y z : Int} {t1 t2 t3 : Tok} {k : Nat} (hA : A.handled = none) (hg : IsRange s.heap g x y z t1 t2 t3) (hb : Builtin.Range.small x y z = false)
    (hk : Builtin.Range.rangeSize x y z = k) (hm : k ≤ 2 ^ 24)
    (hQ : ∀ h2 tk acc c2, (∀ b o, s.heap.get? b = some o → h2.get? b = some o) → h2.get? s.heap.objs.size = some { cls := .type "list", dict := none, data := .seq acc c2, slots := #[] } → ItemsOf (fun i v => ∃ t, v = .int (x + i * z) t) acc k → Q (.ref s.heap.objs.size) { s with heap := h2, toks := tk }) :
    wpAny (model prog w) A (call (.type "list") [.ref g]) Q E s := by
  refine callType_codes (Q₁ := fun obj s1 => obj = .ref s.heap.objs.size ∧ s1 = { s with heap := s.heap.push { cls := .type "list", data := .seq #[] } }) F.called_list (F.typeCall_list_1 _) F.entry_list_init (code_list_new _ ⟨rfl, rfl⟩) fun obj s1 h1 => ?_
  obtain ⟨rfl, rfl⟩ := h1
  have hL : (s.heap.push { cls := .type "list", data := .seq #[] }).get? s.heap.objs.size = some { cls := .type "list", data := .seq #[] } := Heap.get?_push_size _ rfl
  refine ⟨⟨_, hL, rfl⟩, F.args_list_init_2 _ _, ev_init_long (A := A.in1) hA (Heap.get?_push_of_some _ hg) hb hk hm _ hL fun h2 tk acc c2 kp h3 ha => ?_⟩
  exact ⟨rfl, hQ h2 tk acc c2 (fun b o e => kp b o (Nat.ne_of_lt (Heap.lt_size e)) (Heap.get?_push_of_some _ e)) h3 ha⟩
end
end PySem
namespace Ev
open PySem PySem.Spec PyProof.Rows L2
/-- a list of a range, of numbers of any size -/
def tLr (te : L2.St → Hp → (Int → Int → Hp → Prop) → Prop) : TE := fun σ H Q => te σ H fun a b H1 => (b - a).toNat ≤ 2 ^ 24 ∧ ∀ q, H1 q = none → Q (.ref q) (upd H1 q (.lst (rgV a b)))
theorem pe_lr {X : Cx} {e : Expr} {te : L2.St → Hp → (Int → Int → Hp → Prop) → Prop} {p pos : Pos} (hc : X.calm = true) (hg : Gl X "list") (hm : X.mg "list" = none) (he : PRg X e te) (na : starEach [e] X.env = (false, eval e X.env) :: starEach [] X.env) : PE X (.Call (.Name "list" p) [e] [] pos) (tLr te) := by
  refine ⟨fun pins s σ H Q I h => ?_⟩
  refine Call_ (ld_blt I hg hm boot_list (PyProof.Rows.callWith_type1 (args_cons (thn (he pins s σ H _ I h) fun x s1 hx => args_nil ?_) na) na))
  obtain ⟨r, a, b, t, u, v, H1, ex, hr, I1, ok, q⟩ := hx
  subst ex
  have fin : ∀ (h2 : Heap) (tk : Nat) (acc : Array Value) (c2 : Nat), (∀ b o, s1.heap.get? b = some o → h2.get? b = some o) → h2.get? s1.heap.objs.size = some { cls := .type "list", dict := none, data := .seq acc c2, slots := #[] } → ItemsOf (fun i v => ∃ t, v = .int (a + i * 1) t) acc (b - a).toNat →
      EP X pins σ Q (.ref s1.heap.objs.size) { s1 with heap := h2, toks := tk } := fun h2 tk acc c2 kp e2 hi => by
    refine ⟨.ref s1.heap.objs.size, upd H1 s1.heap.objs.size (.lst (rgV a b)), I1.laid kp (Nat.le_refl _) (show ObjOk X.prog X.w _ _ _ (.lst (rgV a b)) from ⟨?_, acc.toList, c2, vals_rg hi, ?_⟩), rfl, q _ (I1.hok.fresh (Nat.le_refl _))⟩
    · rw [rgV_length, sizeLine_eq]; omega
    · rw [Array.toArray_toList]; exact e2
  cases hs : Builtin.Range.small a b 1 with
  | true => exact call_list_range (n := (b - a).toNat) (I1.ok.hd hc) hr hs (rangeSize_nat a b) ok fin
  | false => exact ev_list_long (k := (b - a).toNat) (I1.ok.hd hc) hr hs (rangeSize_nat a b) ok fin
end Ev
namespace Ev
open PySem PySem.Spec PyProof.Rows L2
/-! ## isinstance -/
def tyOfD : D → String
  | .none => "NoneType"
  | .bool _ => "bool"
  | .int _ => "int"
  | .str _ => "str"
  | .list _ => "list"
  | .tuple _ => "tuple"
  | .dict _ => "dict"
def isiD (d : D) (T : String) : Option Bool := match T with
  | "int" => some (match d with | .int _ => true | .bool _ => true | _ => false)
  | "bool" => some (match d with | .bool _ => true | _ => false)
  | "tuple" => some (match d with | .tuple _ => true | _ => false)
  | "list" => some (match d with | .list _ => true | _ => false)
  | "str" => some (match d with | .str _ => true | _ => false)
  | "dict" => some (match d with | .dict _ => true | _ => false)
  | _ => none
theorem kit_tab : ∀ t ∈ ["NoneType", "bool", "int", "str", "list", "tuple"], ∀ T ∈ ["int", "bool", "tuple", "list", "str", "dict"], kitB t T = some (decide (t = T) || (decide (t = "bool") && decide (T = "int"))) := by decide +kernel
theorem isiD_kit {d : D} {T : String} {b : Bool} (hd : d.plain = true) (h : isiD d T = some b) : kitB (tyOfD d) T = some b := by
  have key : ∀ T ∈ ["int", "bool", "tuple", "list", "str", "dict"], isiD d T = some b → kitB (tyOfD d) T = some b := by
    intro T hT h
    have hm : tyOfD d ∈ ["NoneType", "bool", "int", "str", "list", "tuple"] := by cases d <;> first | (simp [tyOfD]; done) | (cases hd)
    rw [kit_tab _ hm T hT]
    simp only [List.mem_cons, List.mem_nil_iff, or_false, List.not_mem_nil] at hT
    rcases hT with rfl | rfl | rfl | rfl | rfl | rfl <;> (cases d <;> (cases h; first | rfl | (cases hd)))
  unfold isiD at h
  split at h <;> first | (cases h; done) | exact key _ (by simp) h
theorem tyX_of {K : PySem.W.Frag} {Z : Hp} {v : V} {d : D} (h : Dp K Z v d) : TyX K Z v (.type (tyOfD d)) := by
  cases h with
  | non => exact .base .non
  | bl b => exact .base (.bl b)
  | int i => exact .base (.int i)
  | str x => exact .base (.str x)
  | lst hs ha =>
    rcases hs with (h | ⟨o, h⟩) | ⟨o, its, n, h1, h2, _⟩
    · exact .base (.lst h)
    · exact .base (.frz h)
    · exact .kList h1 h2
  | tup hs ha =>
    rcases hs with (h | ⟨o, h⟩) | ⟨o, its, n, h1, h2, _⟩
    · exact .base (.tup h)
    · exact .fTuple h
    · exact .kTuple h1 h2
def eIsi (T : String) (f : Fx D) : Fx D := fun env => (f env).bind fun p => (isiD p.1 T).map fun b => (.bool b, p.2)
section
variable {X : Cx} {e a b c : Expr} {es : List Expr} {p pos : Pos} {x : Str}
theorem s_isi {T : String} {y : Str} {p2 : Pos} {f : Fx D} (h : PE X e (tE X.K f)) (hg : Gl X "isinstance") (hm : X.mg "isinstance" = none) (hg2 : Gl X y) (hm2 : X.mg y = none) (hv : bootBuiltins y = some (.type T)) (hn : y ≠ "__name__") (hdb : (y == ("__debug__" : Str)) = false)
    (he : starEach [e, .Name y p2] X.env = (false, eval e X.env) :: starEach [.Name y p2] X.env) : PE X (.Call (.Name "isinstance" p) [e, .Name y p2] [] pos) (tE X.K (eIsi T f)) := by
  refine PE.imp (pe_callB call_isi hg hm (by decide +kernel) (pa_cons h (pa_cons (pe_bltn (v := .ty T) hg2 hm2 hv rfl hn hdb) pa_nil rfl) he) (by decide) (by decide) he rfl) fun σ H Q ⟨F, pa, Z, env, d, env', W, e, k⟩ => ?_
  unfold eIsi at e
  cases e1 : f env with
  | none => rw [e1] at e; cases e
  | some q =>
    rw [e1, Option.bind_some] at e
    cases e2 : isiD q.1 T with
    | none => rw [e2] at e; cases e
    | some bb =>
      rw [e2] at e
      cases e
      exact ⟨F, pa, Z, env, q.1, q.2, W, e1, fun v Z1 H1 g1 W1 q1 => ⟨v, .ty T, _, _, bb, rfl, .ty T, tyX_of (Dp.mono W1.zh _ _ q1), kit_ty (isiD_kit (Dp.plain _ _ q1) e2), k _ Z1 H1 g1 W1 (.bl bb)⟩⟩
/-! ### list(x) -/
def eList (f : Fx D) : Fx R := fun env => (f env).bind fun p => (seqD p.1).map fun ds => (.fresh ds, p.2)
theorem s_list {f : Fx D} (h : PE X e (tE X.K f)) (hg : Gl X "list") (hm : X.mg "list" = none) (he : starEach [e] X.env = (false, eval e X.env) :: starEach [] X.env) : PE X (.Call (.Name "list" p) [e] [] pos) (tR X.K (eList f)) := by
  refine PE.imp (pe_callTy call_list_of hg hm (by decide +kernel) (pa_cons h pa_nil he) (by decide) (by decide) he rfl) fun σ H Q ⟨F, pa, Z, env, r, env', W, e, k⟩ => ?_
  unfold eList at e
  cases e1 : f env with
  | none => rw [e1] at e; cases e
  | some q =>
    rw [e1, Option.bind_some] at e
    cases e2 : seqD q.1 with
    | none => rw [e2] at e; cases e
    | some ds =>
      rw [e2] at e
      cases e
      refine ⟨F, pa, Z, env, q.1, q.2, W, e1, fun v Z1 H1 g1 W1 q1 => ?_⟩
      generalize q.1 = d at q1 e2
      cases q1 with
      | @lst a us ds' hs ha =>
        cases e2
        refine ⟨a, us, rfl, .inl (W1.zh.seq hs), fun l hl => ?_⟩
        obtain ⟨W2, rk⟩ := W1.newL hl ha
        exact k _ Z1 _ g1 W2 rk
      | @tup a us ds' hs ha =>
        cases e2
        refine ⟨a, us, rfl, .inr (Same.sqT W1.zh hs), fun l hl => ?_⟩
        obtain ⟨W2, rk⟩ := W1.newL hl ha
        exact k _ Z1 _ g1 W2 rk
      | _ => cases e2
theorem s_ifR {ft : Fx Bool} {fa fb : Fx R} (hc : PT X c (tT X.K ft)) (ha : PE X a (tR X.K fa)) (hb : PE X b (tR X.K fb)) : PE X (.IfExp c a b pos) (tR X.K (eIf ft fa fb)) := by
  refine PE.imp (pe_ifExp hc ha hb) fun σ H Q ⟨F, pa, Z, env, d, env', W, e, k⟩ => ?_
  unfold eIf at e
  split at e
  · rename_i e1 h1
    refine ⟨F, pa, Z, env, _, e1, W, h1, fun Z' H' g1 W' => ?_⟩
    exact iteT ⟨F, pa, Z', e1, d, env', W', e, fun v Z2 H2 g2 W2 q2 => k v Z2 H2 (g1.trans g2) W2 q2⟩
  · rename_i e1 h1
    refine ⟨F, pa, Z, env, _, e1, W, h1, fun Z' H' g1 W' => ?_⟩
    exact iteF ⟨F, pa, Z', e1, d, env', W', e, fun v Z2 H2 g2 W2 q2 => k v Z2 H2 (g1.trans g2) W2 q2⟩
  · cases e
/-! ### range -/
def in62 (i : Int) : Bool := decide (-(2 ^ 62) ≤ i) && decide (i < 2 ^ 62)
theorem in62_of {i : Int} (h : in62 i = true) : -(2 ^ 62) ≤ i ∧ i < 2 ^ 62 := by
  unfold in62 at h
  simpa only [Bool.and_eq_true, decide_eq_true_eq] using h
def rangeD (lo : Int) (n : Nat) : List D := (List.range n).map fun k => .int (lo + (k : Nat))
theorem range_it (K : PySem.W.Frag) (Z1 : Hp) (lo : Int) (n : Nat) : ItOk K Z1 (Itr lo n) (rangeD lo n) := by
  intro Z H _ zh i
  refine ⟨fun d hd => ?_, fun hi => (show n ≤ i by simpa [rangeD] using hi)⟩
  unfold rangeD at hd
  rw [List.getElem?_map] at hd
  cases e : (List.range n)[i]? with
  | none => rw [e] at hd; cases hd
  | some k =>
    rw [e] at hd; cases hd
    obtain ⟨hk, ek⟩ := List.getElem?_eq_some_iff.mp e
    rw [List.getElem_range] at ek
    subst ek
    refine ⟨show i < n by simpa using hk, fun x H2 ⟨e1, e2⟩ => ?_⟩
    subst e1 e2
    exact ⟨Z, .refl zh, .int _⟩
def iRange1 (f : Fx D) : Fx (List D) := fun env => match f env with
  | some (.int j, e) => some (rangeD 0 (j - 0).toNat, e)
  | _ => none
theorem s_range1 {tg : Expr} {f : Fx D} (h : PE X e (tE X.K f)) (hg : Gl X "range") (hm : X.mg "range" = none) (he : starEach [e] X.env = [(false, eval e X.env)]) : PI X tg (.Call (.Name "range" p) [e] [] pos) (tI X.K (iRange1 f)) := by
  refine PI.imp (pi_rg (prg_1 hg hm h he)) fun σ H R ⟨F, pa, Z, env, ds, env', W, e, k⟩ => ?_
  unfold iRange1 at e
  split at e
  · rename_i j env1 e1
    cases e
    refine ⟨F, pa, Z, env, _, _, W, e1, fun v Z1 H1 g1 W1 q1 => ?_⟩
    cases q1
    exact ⟨j, rfl, k _ Z1 H1 g1 W1 (range_it _ _ _ _)⟩
  · cases e
def iRange2 (f g : Fx D) : Fx (List D) := fun env => match f env with
  | some (.int i, e) => (match g e with
    | some (.int j, e2) => some (rangeD i (j - i).toNat, e2)
    | _ => none)
  | _ => none
theorem s_range2 {tg : Expr} {fa fb : Fx D} (h : PE X a (tE X.K fa)) (h2 : PE X b (tE X.K fb)) (hg : Gl X "range") (hm : X.mg "range" = none) (he : starEach [a, b] X.env = [(false, eval a X.env), (false, eval b X.env)]) (he2 : starEach [b] X.env = [(false, eval b X.env)]) :
    PI X tg (.Call (.Name "range" p) [a, b] [] pos) (tI X.K (iRange2 fa fb)) := by
  refine PI.imp (pi_rg (prg_2 hg hm h h2 (by rw [he, he2]) he2 (by rw [he2]; rfl))) fun σ H R ⟨F, pa, Z, env, ds, env', W, e, k⟩ => ?_
  unfold iRange2 at e
  split at e
  · rename_i i env1 e1
    split at e
    · rename_i j env2 e2
      cases e
      refine ⟨F, pa, Z, env, _, _, W, e1, fun v Z1 H1 g1 W1 q1 => ⟨F, pa, Z1, _, _, _, W1, e2, fun v2 Z2 H2 g2 W2 q2 => ?_⟩⟩
      cases q1
      cases q2
      exact ⟨i, j, rfl, rfl, k _ Z2 H2 (g1.trans g2) W2 (range_it _ _ _ _)⟩
    · cases e
  · cases e
/-! ### list(range(..)) -/
def rgB (a b : Int) : Bool := decide ((b - a).toNat ≤ 2 ^ 24)
theorem rgB_ok {a b : Int} (h : rgB a b = true) : (b - a).toNat ≤ 2 ^ 24 := of_decide_eq_true h
theorem rg_da {K : PySem.W.Frag} {Z : Hp} (a b : Int) : DpAll K Z (rgV a b) (rangeD a (b - a).toNat) := by
  unfold rgV rangeD
  generalize List.range (b - a).toNat = l
  induction l with
  | nil => exact .nil
  | cons x l ih => exact .cons (.int _) ih
def eRgL1 (f : Fx D) : Fx R := fun env => match f env with
  | some (.int j, e) => if rgB 0 j = true then some (.fresh (rangeD 0 (j - 0).toNat), e) else none
  | _ => none
def eRgL2 (f g : Fx D) : Fx R := fun env => match f env with
  | some (.int i, e) => (match g e with
    | some (.int j, e2) => if rgB i j = true then some (.fresh (rangeD i (j - i).toNat), e2) else none
    | _ => none)
  | _ => none
theorem s_listRg1 {b : Expr} {q : Pos} {p2 : Pos} {f : Fx D} (hc : X.calm = true) (h : PE X b (tE X.K f)) (hg : Gl X "list") (hm : X.mg "list" = none) (hg2 : Gl X "range") (hm2 : X.mg "range" = none) (hb : starEach [b] X.env = [(false, eval b X.env)]) :
    PE X (.Call (.Name "list" p) [.Call (.Name "range" p2) [b] [] q] [] pos) (tR X.K (eRgL1 f)) := by
  refine PE.imp (pe_lr hc hg hm (prg_1 hg2 hm2 h hb) rfl) fun σ H Q ⟨F, pa, Z, env, r, env', W, e, k⟩ => ?_
  unfold eRgL1 at e
  split at e
  · rename_i j env1 e1
    by_cases hj : rgB 0 j = true
    · rw [if_pos hj] at e
      cases e
      refine ⟨F, pa, Z, env, _, _, W, e1, fun v Z1 H1 g1 W1 q1 => ?_⟩
      cases q1
      refine ⟨j, rfl, rgB_ok hj, fun l hl => ?_⟩
      obtain ⟨W2, rk⟩ := W1.newL hl (rg_da 0 j)
      exact k _ Z1 _ g1 W2 rk
    · rw [if_neg hj] at e; cases e
  · cases e
theorem s_listRg2 {b c : Expr} {q : Pos} {p2 : Pos} {f g : Fx D} (hc : X.calm = true) (h : PE X b (tE X.K f)) (h2 : PE X c (tE X.K g)) (hg : Gl X "list") (hm : X.mg "list" = none) (hg2 : Gl X "range") (hm2 : X.mg "range" = none)
    (hb : starEach [b, c] X.env = (false, eval b X.env) :: starEach [c] X.env) (hb2 : starEach [c] X.env = [(false, eval c X.env)]) :
    PE X (.Call (.Name "list" p) [.Call (.Name "range" p2) [b, c] [] q] [] pos) (tR X.K (eRgL2 f g)) := by
  refine PE.imp (pe_lr hc hg hm (prg_2 hg2 hm2 h h2 hb hb2 (by rw [hb2]; rfl)) rfl) fun σ H Q ⟨F, pa, Z, env, r, env', W, e, k⟩ => ?_
  unfold eRgL2 at e
  split at e
  · rename_i i env1 e1
    split at e
    · rename_i j env2 e2
      by_cases hj : rgB i j = true
      · rw [if_pos hj] at e
        cases e
        refine ⟨F, pa, Z, env, _, _, W, e1, fun v Z1 H1 g1 W1 q1 => ⟨F, pa, Z1, _, _, _, W1, e2, fun v2 Z2 H2 g2 W2 q2 => ?_⟩⟩
        cases q1
        cases q2
        refine ⟨i, j, rfl, rfl, rgB_ok hj, fun l hl => ?_⟩
        obtain ⟨W3, rk⟩ := W2.newL hl (rg_da i j)
        exact k _ Z2 _ (g1.trans g2) W3 rk
      · rw [if_neg hj] at e; cases e
    · cases e
  · cases e
/-! ### zip -/
def zipD : List D → List D → List D
  | a :: as, b :: bs => .tuple [a, b] :: zipD as bs
  | _, _ => []
theorem zipD_get : ∀ {as bs : List D} {i : Nat} {d : D}, (zipD as bs)[i]? = some d → ∃ a b, as[i]? = some a ∧ bs[i]? = some b ∧ d = .tuple [a, b]
  | [], _, _, _, h => by simp [zipD] at h
  | _ :: _, [], _, _, h => by simp [zipD] at h
  | a :: as, b :: bs, 0, d, h => by simp [zipD] at h; exact ⟨a, b, rfl, rfl, h.symm⟩
  | a :: as, b :: bs, i + 1, d, h => by
    obtain ⟨a', b', h1, h2, h3⟩ := zipD_get (as := as) (bs := bs) (i := i) (d := d) (by simpa [zipD] using h)
    exact ⟨a', b', by simpa using h1, by simpa using h2, h3⟩
theorem zipD_len : ∀ (as bs : List D), (zipD as bs).length = min as.length bs.length
  | [], _ => by simp [zipD]
  | _ :: _, [] => by simp [zipD]
  | a :: as, b :: bs => by
    simp only [zipD, List.length_cons, zipD_len as bs]
    omega
def zipOf : List D → Option (List D)
  | [.list as, .list bs] => some (zipD as bs)
  | [.tuple as, .tuple bs] => some (zipD as bs)
  | _ => none
def iZip (f : Fx (List D)) : Fx (List D) := fun env => (f env).bind fun p => (zipOf p.1).map fun ds => (ds, p.2)
theorem s_zip {e2 : Expr} {elts : List Expr} {kk : Nat} {tpos : Pos} {f : Fx (List D)} (h : PA X [e, e2] (tAd X.K f)) (hg : Gl X "zip") (hm : X.mg "zip" = none) (hs : starEach [e, e2] X.env = (false, eval e X.env) :: starEach [e2] X.env) (hpl : (backTo pos (starEach [e2] X.env)).any (·.1) = false) :
    PI X (.Tuple elts kk tpos) (.Call (.Name "zip" p) [e, e2] [] pos) (tI X.K (iZip f)) := by
  refine PI.imp (RZ.pi_zipA hg hm h hs hpl) fun σ H R ⟨F, pa, Z, env, ds, env', W, e, k⟩ => ?_
  unfold iZip at e
  cases e1 : f env with
  | none => rw [e1] at e; cases e
  | some q =>
    rw [e1, Option.bind_some] at e
    cases e3 : zipOf q.1 with
    | none => rw [e3] at e; cases e
    | some zs =>
      rw [e3] at e
      cases e
      refine ⟨F, pa, Z, env, q.1, q.2, W, e1, fun vs Z1 H1 g1 W1 q1 => ?_⟩
      generalize q.1 = dd at q1 e3
      have pair : ∀ {Z H : Hp} {T : Addr} {x y : V} {a b : D}, Same Z H → H T = none → Dp X.K Z x a → Dp X.K Z y b → ∃ Z2, Alc Z H Z2 (upd H T (.tup [x, y])) ∧ Dp X.K Z2 (.ref T) (.tuple [a, b]) := fun {Z H T x y a b} zh hT d1 d2 => by
        have al := Alc.new (o := .tup [x, y]) zh hT
        exact ⟨_, al, .tup (SqT.of upd_same) (.cons (Dp.mono al.zz _ _ d1) (.cons (Dp.mono al.zz _ _ d2) .nil))⟩
      unfold zipOf at e3
      split at e3
      · rename_i as bs
        cases e3
        cases q1 with
        | cons h1 h2 =>
          cases h2 with
          | cons h3 h4 =>
            cases h4
            cases h1 with
            | @lst a us _ hsa ha =>
              cases h3 with
              | @lst b us' _ hsb hb =>
                refine ⟨a, b, us, us', rfl, .inl ⟨W1.zh.seq hsa, W1.zh.seq hsb, k _ Z1 H1 g1 W1 fun Z H z1 zh i => ⟨fun d hd => ?_, fun hi => ?_⟩⟩⟩
                · obtain ⟨da, db, hA, hB, rfl⟩ := zipD_get hd
                  obtain ⟨va, ea, qa⟩ := da_get ha hA
                  obtain ⟨vb, eb, qb⟩ := da_get hb hB
                  have sa := zh.seq (z1.seq hsa)
                  have sb := zh.seq (z1.seq hsb)
                  refine ⟨⟨us, us', va, vb, sa, sb, ea, eb⟩, fun x H2 ⟨T, x1, y1, ex, hT, eH, y1', y2'⟩ => ?_⟩
                  subst ex eH
                  have t1 := y1' us sa
                  have t2 := y2' us' sb
                  rw [ea] at t1; rw [eb] at t2
                  cases t1; cases t2
                  exact pair zh hT (Dp.mono z1 _ _ qa) (Dp.mono z1 _ _ qb)
                · rw [zipD_len] at hi
                  exact ⟨us, us', zh.seq (z1.seq hsa), zh.seq (z1.seq hsb), by rw [da_length ha, da_length hb]; omega⟩
      · rename_i as bs
        cases e3
        cases q1 with
        | cons h1 h2 =>
          cases h2 with
          | cons h3 h4 =>
            cases h4
            cases h1 with
            | @tup a us _ hsa ha =>
              cases h3 with
              | @tup b us' _ hsb hb =>
                refine ⟨a, b, us, us', rfl, .inr ⟨Same.sqT W1.zh hsa, Same.sqT W1.zh hsb, k _ Z1 H1 g1 W1 fun Z H z1 zh i => ⟨fun d hd => ?_, fun hi => ?_⟩⟩⟩
                · obtain ⟨da, db, hA, hB, rfl⟩ := zipD_get hd
                  obtain ⟨va, ea, qa⟩ := da_get ha hA
                  obtain ⟨vb, eb, qb⟩ := da_get hb hB
                  have sa := Same.sqT zh (Same.sqT z1 hsa)
                  have sb := Same.sqT zh (Same.sqT z1 hsb)
                  refine ⟨⟨us, us', va, vb, sa, sb, ea, eb⟩, fun x H2 ⟨T, x1, y1, ex, hT, eH, y1', y2'⟩ => ?_⟩
                  subst ex eH
                  have t1 := y1' us sa
                  have t2 := y2' us' sb
                  rw [ea] at t1; rw [eb] at t2
                  cases t1; cases t2
                  exact pair zh hT (Dp.mono z1 _ _ qa) (Dp.mono z1 _ _ qb)
                · rw [zipD_len] at hi
                  exact ⟨us, us', Same.sqT zh (Same.sqT z1 hsa), Same.sqT zh (Same.sqT z1 hsb), by rw [da_length ha, da_length hb]; omega⟩
      · cases e3
end
end Ev
namespace Ev
open PySem PySem.Spec PyProof.Rows L2
/-! ## a, b = x, y -/
def aR (f : Fx R) (g : Fx (List AR)) : Fx (List AR) := fun env => match f env with
  | some (.fresh ds, e) => (g e).map fun q => (.tmp ds :: q.1, q.2)
  | some (.val d, e) => (g e).map fun q => (.val d :: q.1, q.2)
  | none => none
section
variable {X : Cx} {e : Expr} {es : List Expr} {p pos : Pos} {x : Str}
theorem s_aR {f : Fx R} {g : Fx (List AR)} (h1 : PE X e (tR X.K f)) (h2 : PA X es (tAa X.K g)) (hs : starEach (e :: es) X.env = (false, eval e X.env) :: starEach es X.env) : PA X (e :: es) (tAa X.K (aR f g)) := by
  refine PA.imp (pa_cons h1 h2 hs) fun σ H Q ⟨F, pa, Z, env, as, env', W, h, k⟩ => ?_
  unfold aR at h
  split at h
  · rename_i ds env1 e1
    cases e2 : g env1 with
    | none => rw [e2] at h; cases h
    | some q =>
      rw [e2] at h
      cases h
      refine ⟨F, pa, Z, env, _, env1, W, e1, fun v Z1 H1 g1 W1 q1 => ?_⟩
      obtain ⟨p, us, rfl, hp, zp, fp, da, no⟩ := q1
      have sf : Same F (upd F p (.lst us)) := upd_none fp
      refine ⟨upd F p (.lst us), pa, Z1, env1, q.1, q.2, W1.frameUp hp no, e2, fun vs Z2 H2 g2 W2 q2 => ?_⟩
      have g2' : Gr F Z1 Z2 := g2.frame sf
      refine k (.ref p :: vs) Z2 H2 (g1.trans g2') (W2.frame sf) (.tmp (W2.fh p _ upd_same) ?_ fp (DpAll.mono g2.zz _ _ da) (fun i o s a1 a2 a3 => ?_) (fun hm => ?_) (q2.frame sf))
      · exact (g2.nf p (by rw [upd_same]; exact fun z => nomatch z)).trans zp
      · obtain ⟨us', b1, b2, b3⟩ := (W2.sl i o s a1 a2).at_ a3
        rw [upd_same] at b2; cases b2
      · have := q2.tmpF p hm
        rw [upd_same] at this; cases this
  · rename_i d env1 e1
    cases e2 : g env1 with
    | none => rw [e2] at h; cases h
    | some q =>
      rw [e2] at h
      cases h
      exact ⟨F, pa, Z, env, _, env1, W, e1, fun v Z1 H1 g1 W1 q1 => ⟨F, pa, Z1, env1, q.1, q.2, W1, e2, fun vs Z2 H2 g2 W2 q2 => k (v :: vs) Z2 H2 (g1.trans g2) W2 (.val (Dp.mono g2.zz _ _ q1) q2)⟩⟩
  · cases h
end
theorem ArsOk.reslot {K : PySem.W.Frag} {F Z H : Hp} {σ σ' : L2.St} {env env' : En} : ∀ {vs : List V} {as : List AR}, ArsOk K F Z H σ env vs as → slotsOf as = [] →
    (∀ p ∈ tmps vs as, ∀ (i : Nat) (o : Option V) (s : Sl), σ'[i]? = some o → env'[i]? = some s → ownA o s ≠ some p) → ArsOk K F Z H σ' env' vs as
  | _, _, .nil, _, _ => .nil
  | _, _, .val (v := v) d t, h, k => .val d (t.reslot h fun p hp => k p (by cases v <;> exact hp))
  | _, _, .slot _ _, h, _ => by cases h
  | _, _, .tmp a b c d e f t, h, k => .tmp a b c d (k _ (List.mem_cons_self ..)) f (t.reslot h fun p hp => k p (List.mem_cons_of_mem _ hp))
def setMany : List Nat → List AR → En → Option En
  | [], [], env => some env
  | i :: is, .val d :: as, env => (setR i (.val d) env).bind (setMany is as)
  | i :: is, .tmp ds :: as, env => (setR i (.fresh ds) env).bind (setMany is as)
  | _, _, _ => none
def setManyV : List Nat → List V → L2.St → L2.St
  | i :: is, v :: vs, σ => setManyV is vs (σ.set i (some v))
  | _, _, σ => σ
theorem setMany_slots : ∀ {is : List Nat} {as : List AR} {env env2 : En}, setMany is as env = some env2 → slotsOf as = []
  | [], [], _, _, _ => rfl
  | [], _ :: _, _, _, h => by simp [setMany] at h
  | _ :: _, [], _, _, h => by simp [setMany] at h
  | i :: is, .slot _ :: as, _, _, h => by simp [setMany] at h
  | i :: is, .val d :: as, env, env2, h => by
    have h' : (setR i (.val d) env).bind (setMany is as) = some env2 := h
    cases e : setR i (.val d) env with
    | none => rw [e] at h'; cases h'
    | some env1 => rw [e, Option.bind_some] at h'; exact setMany_slots (as := as) h'
  | i :: is, .tmp d :: as, env, env2, h => by
    have h' : (setR i (.fresh d) env).bind (setMany is as) = some env2 := h
    cases e : setR i (.fresh d) env with
    | none => rw [e] at h'; cases h'
    | some env1 => rw [e, Option.bind_some] at h'; exact setMany_slots (as := as) h'
theorem setR_own {K : PySem.W.Frag} {F Z H : Hp} {pa : Nat → Option Addr} {σ : L2.St} {env env1 : En} {i : Nat} {v : V} {r : R} {q : Addr} (W : Wst K F Z H pa σ env) (e : setR i r env = some env1) (hv : ∀ ds, r = .fresh ds → v ≠ .ref q)
    (no : ∀ (i : Nat) (o : Option V) (s : Sl), σ[i]? = some o → env[i]? = some s → ownA o s ≠ some q) : ∀ (j : Nat) (o : Option V) (s : Sl), (σ.set i (some v))[j]? = some o → env1[j]? = some s → ownA o s ≠ some q := by
  unfold setR at e
  split at e
  · rename_i s0 hs0
    cases hp : isPar s0 with
    | true => rw [hp, if_pos rfl] at e; cases e
    | false =>
      rw [hp, if_neg Bool.false_ne_true] at e
      cases e
      intro j o s e1 e2 e3
      have hi : i < env.length := (List.getElem?_eq_some_iff.mp hs0).1
      by_cases hj : i = j
      · subst hj
        rw [List.getElem?_set_self (by rw [W.len]; exact hi)] at e1
        rw [List.getElem?_set_self hi] at e2
        cases e1; cases e2
        obtain ⟨h1, h2⟩ := ownA_iff.mp e3
        cases r with
        | val d => rcases h2 with ⟨_, z⟩ | ⟨_, z⟩ <;> cases z
        | fresh ds => exact hv ds rfl (Option.some.inj h1)
      · rw [List.getElem?_set_ne hj] at e1 e2
        exact no j o s e1 e2 e3
  · cases e
theorem Wst.setMany {K : PySem.W.Frag} {F Z H : Hp} {pa : Nat → Option Addr} : ∀ {is : List Nat} {vs : List V} {as : List AR} {σ : L2.St} {env env2 : En}, Wst K F Z H pa σ env → ArsOk K F Z H σ env vs as → Ev.setMany is as env = some env2 → Wst K F Z H pa (setManyV is vs σ) env2
  | [], _, [], _, _, _, W, A, h => by cases A; cases h; exact W
  | [], _, _ :: _, _, _, _, _, _, h => by simp [Ev.setMany] at h
  | _ :: _, _, [], _, _, _, _, _, h => by simp [Ev.setMany] at h
  | i :: is, _, .slot _ :: as, _, _, _, _, _, h => by simp [Ev.setMany] at h
  | i :: is, _, .val d :: as, σ, env, env2, W, A, h => by
    have h' : (Ev.setR i (.val d) env).bind (Ev.setMany is as) = some env2 := h
    cases e : Ev.setR i (.val d) env with
    | none => rw [e] at h'; cases h'
    | some env1 =>
      rw [e, Option.bind_some] at h'
      cases A with
      | @val v _ vs _ q t =>
        have W1 := W.setR (r := .val d) (v := v) q e
        show Wst K F Z H pa (setManyV is vs (σ.set i (some v))) env2
        refine Wst.setMany W1 (t.reslot (setMany_slots h') fun p hp => ?_) h'
        have no := (tmps_not_own t p hp).2.2.2
        exact setR_own W e (fun ds z => by cases z) no
  | i :: is, _, .tmp d :: as, σ, env, env2, W, A, h => by
    have h' : (Ev.setR i (.fresh d) env).bind (Ev.setMany is as) = some env2 := h
    cases e : Ev.setR i (.fresh d) env with
    | none => rw [e] at h'; cases h'
    | some env1 =>
      rw [e, Option.bind_some] at h'
      cases A with
      | @tmp p us _ vs _ h1 h2 h3 h4 h5 h6 t =>
        have W1 := W.setR (r := .fresh d) (v := .ref p) ⟨p, us, rfl, h1, h2, h3, h4, h5⟩ e
        show Wst K F Z H pa (setManyV is vs (σ.set i (some (.ref p)))) env2
        refine Wst.setMany W1 (t.reslot (setMany_slots h') fun q hq => ?_) h'
        have no := (tmps_not_own t q hq).2.2.2
        exact setR_own W e (fun ds _ z => h6 (by cases z; exact hq)) no
def sPar (is : List Nat) (f : Fx (List AR)) : Fx Fl := fun env => (f env).bind fun p => (setMany is p.1 p.2).map fun e => (.nx, e)
theorem ars_len {K : PySem.W.Frag} {F Z H : Hp} {σ : L2.St} {env : En} {vs : List V} {as : List AR} (A : ArsOk K F Z H σ env vs as) : vs.length = as.length := by
  induction A with
  | nil => rfl
  | val _ _ ih => exact congrArg Nat.succ ih
  | slot _ _ ih => exact congrArg Nat.succ ih
  | tmp _ _ _ _ _ _ _ ih => exact congrArg Nat.succ ih
theorem setMany_len : ∀ {is : List Nat} {as : List AR} {env env2 : En}, setMany is as env = some env2 → as.length = is.length
  | [], [], _, _, _ => rfl
  | [], _ :: _, _, _, h => by simp [setMany] at h
  | _ :: _, [], _, _, h => by simp [setMany] at h
  | i :: is, .slot _ :: as, _, _, h => by simp [setMany] at h
  | i :: is, .val d :: as, env, env2, h => by
    have h' : (setR i (.val d) env).bind (setMany is as) = some env2 := h
    cases e : setR i (.val d) env with
    | none => rw [e] at h'; cases h'
    | some env1 => rw [e, Option.bind_some] at h'; exact congrArg Nat.succ (setMany_len h')
  | i :: is, .tmp d :: as, env, env2, h => by
    have h' : (setR i (.fresh d) env).bind (setMany is as) = some env2 := h
    cases e : setR i (.fresh d) env with
    | none => rw [e] at h'; cases h'
    | some env1 => rw [e, Option.bind_some] at h'; exact congrArg Nat.succ (setMany_len h')
theorem par_core {K : PySem.W.Frag} {is : List Nat} {f : Fx (List AR)} {DD : Ends} {σ : L2.St} {H : Hp} (h : tS K (sPar is f) DD σ H) : tAa K f σ H fun vs H1 => vs.length = is.length ∧ DD.nx (setManyV is vs σ) H1 := by
  obtain ⟨F, pa, Z, env, fl, env', W, e, k⟩ := h
  unfold sPar at e
  cases e1 : f env with
  | none => rw [e1] at e; cases e
  | some q =>
    rw [e1, Option.bind_some] at e
    cases e2 : setMany is q.1 q.2 with
    | none => rw [e2] at e; cases e
    | some env2 =>
      rw [e2] at e
      cases e
      exact ⟨F, pa, Z, env, q.1, q.2, W, e1, fun vs Z1 H1 g1 W1 A => ⟨by rw [ars_len A, setMany_len e2], k _ Z1 H1 g1 (W1.setMany A e2)⟩⟩
theorem tAa_mono {K : PySem.W.Frag} {f : Fx (List AR)} {σ : L2.St} {H : Hp} {Q Q' : List V → Hp → Prop} (h : tAa K f σ H Q) (m : ∀ vs H', Q vs H' → Q' vs H') : tAa K f σ H Q' := by
  obtain ⟨F, pa, Z, env, as, env', W, e, k⟩ := h
  exact ⟨F, pa, Z, env, as, env', W, e, fun vs Z' H' g1 W1 A => m _ _ (k vs Z' H' g1 W1 A)⟩
/-- the answer of swappedStores in a def's body -/
def swNames (sc : Scope) (ts : List Expr) (line : Nat) : List Str := ts.filterMap fun
  | .Name id pos => if sc.names.lookup id == some .local && pos.line == line then some id else none
  | _ => none
def swGood (sc : Scope) (ts vs : List Expr) : Bool :=
  (!(!(ts.length == 2 || ts.length == 3) || vs.length != ts.length)) && (!vs.any fun | .Starred .. => true | _ => false) &&
  (!((swNames sc ts ((ts.head?.map (·.pos.line)).getD 0)).length != ts.length || (swNames sc ts ((ts.head?.map (·.pos.line)).getD 0)).eraseDups.length != (swNames sc ts ((ts.head?.map (·.pos.line)).getD 0)).length)) && !vs.all (foldedForSure 8) && !vs.all (constantsAlone 8)
/-- not swapped, for sure -/
def swNone (sc : Scope) (ts vs : List Expr) : Bool :=
  (!(ts.length == 2 || ts.length == 3) || vs.length != ts.length) || (vs.any fun | .Starred .. => true | _ => false) ||
  ((swNames sc ts ((ts.head?.map (·.pos.line)).getD 0)).length != ts.length || (swNames sc ts ((ts.head?.map (·.pos.line)).getD 0)).eraseDups.length != (swNames sc ts ((ts.head?.map (·.pos.line)).getD 0)).length) || vs.all (foldedForSure 8)
theorem swapped_good {env : Env} {ts vs : List Expr} {k k2 : Nat} {p p2 : Pos} (hk : env.scope.kind = .function) (h : swGood env.scope ts vs = true) :
    swappedStores [.Tuple ts k p] (.Tuple vs k2 p2) env = pure (some (swNames env.scope ts ((ts.head?.map (·.pos.line)).getD 0))) := by
  have hb : env.blockKind = .function := by unfold Env.blockKind; rw [hk]; rfl
  unfold swGood at h
  simp only [Bool.and_eq_true, Bool.not_eq_true'] at h
  obtain ⟨⟨⟨⟨h1, h2⟩, h3⟩, h4⟩, h5⟩ := h
  unfold swappedStores
  simp only [hb]
  have e0 : (!(ts.length == 2 || ts.length == 3) || vs.length != ts.length || (ScopeKind.function != ScopeKind.function)) = false := by
    rw [h1]; rfl
  rw [if_neg (by rw [e0]; exact Bool.false_ne_true)]
  refine Eq.trans (if_neg fun z => Bool.false_ne_true (h2.symm.trans z)) ?_
  refine Eq.trans (if_neg fun z => Bool.false_ne_true (h3.symm.trans z)) ?_
  refine Eq.trans (if_neg fun z => Bool.false_ne_true (h4.symm.trans z)) ?_
  exact if_neg fun z => Bool.false_ne_true (h5.symm.trans z)
theorem swapped_none {env : Env} {ts vs : List Expr} {k k2 : Nat} {p p2 : Pos} (hk : env.scope.kind = .function) (h : swNone env.scope ts vs = true) : swappedStores [.Tuple ts k p] (.Tuple vs k2 p2) env = pure none := by
  have hb : env.blockKind = .function := by unfold Env.blockKind; rw [hk]; rfl
  unfold swappedStores
  simp only [hb]
  by_cases h1 : (!(ts.length == 2 || ts.length == 3) || vs.length != ts.length) = true
  · exact if_pos (by rw [h1]; rfl)
  · have h1' := Bool.eq_false_iff.mpr h1
    have e0 : (!(ts.length == 2 || ts.length == 3) || vs.length != ts.length || (ScopeKind.function != ScopeKind.function)) = false := by
      rw [h1']; rfl
    rw [if_neg (by rw [e0]; exact Bool.false_ne_true)]
    by_cases h2 : (vs.any fun | .Starred .. => true | _ => false) = true
    · exact if_pos h2
    · refine Eq.trans (if_neg fun z => h2 z) ?_
      by_cases h3 : ((swNames env.scope ts ((ts.head?.map (·.pos.line)).getD 0)).length != ts.length || (swNames env.scope ts ((ts.head?.map (·.pos.line)).getD 0)).eraseDups.length != (swNames env.scope ts ((ts.head?.map (·.pos.line)).getD 0)).length) = true
      · exact if_pos h3
      · refine Eq.trans (if_neg fun z => h3 z) ?_
        have h4 : vs.all (foldedForSure 8) = true := by
          unfold swNone at h
          rw [h1', Bool.eq_false_iff.mpr h2, Bool.eq_false_iff.mpr h3] at h
          exact h
        exact if_pos h4
theorem swapped_other {env : Env} {tg e : Expr} (h : (match tg, e with | .Tuple _ _ _, .Tuple _ _ _ => false | .List _ _, _ => false | _, _ => true) = true) : swappedStores [tg] e env = pure none := by
  unfold swappedStores
  cases tg <;> cases e <;> first | rfl | (cases h)
section
variable {X : Cx} {pos : Pos} {x y z : Str}
theorem s_par2 {i j : Nat} {a b : Expr} {f : Fx (List AR)} {px py pt p2 : Pos} {kt k2 : Nat} (hc : X.calm = true) (hk : X.env.scope.kind = .function) (hN : X.N.Nodup) (hi : X.N[i]? = some x) (hj : X.N[j]? = some y) (hij : i ≠ j) (hx : X.env.scope.names.lookup x = some .local) (hy : X.env.scope.names.lookup y = some .local)
    (ha : PA X [a, b] (tAa X.K f)) (hg : swGood X.env.scope [.Name x px, .Name y py] [a, b] = true) (hn : swNames X.env.scope [.Name x px, .Name y py] px.line = [x, y]) : PS X (.Assign [.Tuple [.Name x px, .Name y py] kt pt] (.Tuple [a, b] k2 p2) pos) (tS X.K (sPar [i, j] f)) := by
  have hw : swappedStores [.Tuple [.Name x px, .Name y py] kt pt] (.Tuple [a, b] k2 p2) X.env = pure (some [x, y]) := by
    rw [swapped_good hk hg]
    exact congrArg (fun q => pure (some q)) hn
  refine PS.imp (ps_par hc hN hi hj hij hx hy ha hw rfl) fun DD σ H h => ?_
  refine tAa_mono (par_core h) fun vs H' ⟨hl, q⟩ => ?_
  match vs, hl with
  | [v, w], _ => exact ⟨v, w, rfl, q⟩
theorem s_par3 {i j l : Nat} {a b c : Expr} {f : Fx (List AR)} {px py pz pt p2 : Pos} {kt k2 : Nat} (hc : X.calm = true) (hk : X.env.scope.kind = .function) (hN : X.N.Nodup) (hi : X.N[i]? = some x) (hj : X.N[j]? = some y) (hl : X.N[l]? = some z) (hij : i ≠ j) (hil : i ≠ l) (hjl : j ≠ l) (hx : X.env.scope.names.lookup x = some .local) (hy : X.env.scope.names.lookup y = some .local) (hz : X.env.scope.names.lookup z = some .local)
    (ha : PA X [a, b, c] (tAa X.K f)) (hg : swGood X.env.scope [.Name x px, .Name y py, .Name z pz] [a, b, c] = true) (hn : swNames X.env.scope [.Name x px, .Name y py, .Name z pz] px.line = [x, y, z]) : PS X (.Assign [.Tuple [.Name x px, .Name y py, .Name z pz] kt pt] (.Tuple [a, b, c] k2 p2) pos) (tS X.K (sPar [i, j, l] f)) := by
  have hw : swappedStores [.Tuple [.Name x px, .Name y py, .Name z pz] kt pt] (.Tuple [a, b, c] k2 p2) X.env = pure (some [x, y, z]) := by
    rw [swapped_good hk hg]
    exact congrArg (fun q => pure (some q)) hn
  refine PS.imp (ps_par3 hc hN hi hj hl hij hil hjl hx hy hz ha hw rfl) fun DD σ H h => ?_
  refine tAa_mono (par_core h) fun vs H' ⟨hl, q⟩ => ?_
  match vs, hl with
  | [u, v, w], _ => exact ⟨u, v, w, rfl, q⟩
end
/-! ## calls with keywords -/
/-- the arguments, positional ones us and keywords' ones ws, by places -/
def pick {α : Type} (n m : Nat) (perm : List Nat) (us ws : List α) : List α := if us.length = n ∧ ws.length = m then perm.filterMap fun i => (us ++ ws)[i]? else []
theorem pick_rel {G : V → Value → Prop} {n m : Nat} {perm : List Nat} {vs zs : List V} {us ws : List Value} (h1 : Paired G vs us) (h2 : Paired G zs ws) : Paired G (pick n m perm vs zs) (pick n m perm us ws) := by
  unfold pick
  rw [Paired.length h1, Paired.length h2]
  by_cases h : us.length = n ∧ ws.length = m
  · rw [if_pos h, if_pos h]
    have app : ∀ {a c : List V} {b d : List Value}, Paired G a b → Paired G c d → Paired G (a ++ c) (b ++ d) := by
      intro a c b d h1 h2
      induction h1 with
      | nil => exact h2
      | cons r _ ih => exact .cons r ih
    have ha := app h1 h2
    have get : ∀ {a : List V} {b : List Value}, Paired G a b → ∀ i : Nat, (a[i]? = none ∧ b[i]? = none) ∨ ∃ x y, a[i]? = some x ∧ b[i]? = some y ∧ G x y := by
      intro a b h
      induction h with
      | nil => exact fun i => .inl ⟨rfl, rfl⟩
      | cons r _ ih =>
        intro i
        cases i with
        | zero => exact .inr ⟨_, _, rfl, rfl, r⟩
        | succ i =>
          have := ih i
          simp only [List.getElem?_cons_succ]
          exact this
    induction perm with
    | nil => exact .nil
    | cons i perm ih =>
      rcases get ha i with ⟨e1, e2⟩ | ⟨x, y, e1, e2, r⟩
      · rw [List.filterMap_cons, List.filterMap_cons, e1, e2]; exact ih
      · rw [List.filterMap_cons, List.filterMap_cons, e1, e2]; exact .cons r ih
  · rw [if_neg h, if_neg h]; exact .nil
theorem pick_da {K : PySem.W.Frag} {Z : Hp} {n m : Nat} {perm : List Nat} {vs zs : List V} {ds es : List D} (h1 : DpAll K Z vs ds) (h2 : DpAll K Z zs es) : DpAll K Z (pick n m perm vs zs) (pick n m perm ds es) := by
  unfold pick
  rw [da_length h1, da_length h2]
  by_cases h : ds.length = n ∧ es.length = m
  · rw [if_pos h, if_pos h]
    have ha := da_append h1 h2
    have hl := da_length ha
    induction perm with
    | nil => exact .nil
    | cons i perm ih =>
      rw [List.filterMap_cons, List.filterMap_cons]
      cases e : (ds ++ es)[i]? with
      | none =>
        have : (vs ++ zs)[i]? = none := by
          rw [List.getElem?_eq_none_iff] at e ⊢
          omega
        rw [this]; exact ih
      | some d =>
        obtain ⟨v, e1, q⟩ := da_get ha e
        rw [e1]; exact .cons q ih
  · rw [if_neg h, if_neg h]; exact .nil
def eCallK (g : Fn) (n m : Nat) (perm : List Nat) (f fk : Fx (List D)) : Fx R := fun env => (f env).bind fun p => (fk p.2).bind fun q => match g ((pick n m perm p.1 q.1).map .val) with
  | some (r, []) => some (r, q.2)
  | _ => none
theorem vals_av {K : PySem.W.Frag} {F Z H : Hp} : ∀ {vs : List V} {ds : List D}, DpAll K Z vs ds → AvOk K F Z H vs (ds.map .val)
  | _, _, .nil => .nil
  | _, _, .cons h t => .val h (vals_av t)
theorem vals_adr : ∀ (vs : List V) (ds : List D), ownAdr vs (ds.map AV.val) = []
  | [], [] => rfl
  | [], _ :: _ => rfl
  | v :: _, [] => by cases v <;> rfl
  | v :: vs, d :: ds => by
    have := vals_adr vs ds
    cases v <;> exact this
def tKd (K : PySem.W.Frag) (f : Fx (List D)) : TA := tAd K f
theorem tCallK_of {K : PySem.W.Frag} {np n m : Nat} {perm : List Nat} {g : Fn} {f fk : Fx (List D)} {E : XK} {σ : L2.St} {H : Hp} {Q : VK} (hp : perm.length = np) (hv : ∀ i ∈ perm, i < n + m)
    (h : tR K (eCallK g n m perm f fk) σ H Q) (h1 : ∀ env ds env', f env = some (ds, env') → ds.length = n) (h2 : ∀ env ds env', fk env = some (ds, env') → ds.length = m) : tCallK (spF K np g) (pick n m perm) E (tAd K f) (tAd K fk) σ H Q := by
  obtain ⟨F, pa, Z, env, r, env', W, e, k⟩ := h
  unfold eCallK at e
  cases e1 : f env with
  | none => rw [e1] at e; cases e
  | some p =>
    rw [e1, Option.bind_some] at e
    cases e2 : fk p.2 with
    | none => rw [e2] at e; cases e
    | some q =>
      rw [e2, Option.bind_some] at e
      split at e
      · rename_i r' e3
        cases e
        refine ⟨F, pa, Z, env, p.1, p.2, W, e1, fun vs Z1 H1 g1 W1 q1 => ⟨F, pa, Z1, p.2, q.1, q.2, W1, e2, fun zs Z2 H2 g2 W2 q2 => ?_⟩⟩
        have da := pick_da (n := n) (m := m) (perm := perm) (DpAll.mono g2.zz _ _ q1) q2
        have l1 := h1 _ _ _ e1
        have l2 := h2 _ _ _ e2
        have pl : ∀ perm : List Nat, (∀ i ∈ perm, i < n + m) → (perm.filterMap fun i => (vs ++ zs)[i]?).length = perm.length := by
          intro perm hv
          induction perm with
          | nil => rfl
          | cons i perm ih =>
            have hi : i < (vs ++ zs).length := by
              rw [List.length_append, da_length q1, da_length q2, l1, l2]
              exact hv i (List.mem_cons_self ..)
            rw [List.filterMap_cons, show (vs ++ zs)[i]? = some (vs ++ zs)[i] by simp [hi]]
            exact congrArg Nat.succ (ih fun j hj => hv j (List.mem_cons_of_mem _ hj))
        refine ⟨?_, H2, Z2, (pick n m perm p.1 q.1).map .val, r, [], Same.refl _, W2.zh, vals_av da, e3, fun v Z3 H3 g3 f3 z3 o3 rt => ?_⟩
        · unfold pick
          rw [if_pos ⟨by rw [da_length q1, l1], by rw [da_length q2, l2]⟩, pl perm hv, hp]
        · have al : Alc Z2 H2 Z3 H3 := ⟨g3.zz, f3, z3, g3.nf⟩
          have W3 := W2.alc al
          refine k v Z3 H3 ((g1.trans g2).trans (al.gr W2.fh)) W3 ?_
          cases r with
          | val d => exact rt
          | fresh ds =>
            obtain ⟨pp, us, rfl, b1, b2, b3, b4, b5⟩ := rt
            refine ⟨pp, us, rfl, b1, b2, W2.fh.free b3, b5, fun i o s q1 q2 q3 => ?_⟩
            obtain ⟨us', c1, _⟩ := (W2.sl i o s q1 q2).at_ q3
            rw [b3] at c1; cases c1
      · cases e
end Ev
namespace Ev
open PySem PySem.Spec PyProof.Rows L2
open AutoSeq1 (wpAny_loadPart')
/-! ## enumerate over a tuple -/
theorem enum_newT (l : Addr) (items : Array Value) :
    Meets (Builtin.«enumerate.__new__» ⟨[.type "enumerate", .ref l], []⟩) (fun _ R s => s.heap.IsTuple l items ∧
      R (.ok (.ret (.ref (s.heap.push { cls := .type "tuple_iterator", data := .fields #[.ref l, .int 0 0] }).objs.size)))
        { s with heap := (s.heap.push { cls := .type "tuple_iterator", data := .fields #[.ref l, .int 0 0] }).push { cls := .type "enumerate", data := .fields #[.none, .bool false, .ref s.heap.objs.size, rawInt 0, .none, .none] } }) :=
  .of_wp fun prog w A R s h => by
    obtain ⟨hp, g, d, tk, os⟩ := s; obtain ⟨hT, h⟩ := h
    have hsub := sub_enumerate
    obtain ⟨ol, hol, hcl, nl, hdl⟩ := id hT
    wp_walk using wpAny_loadPart' hol
    refine wpAny_stack_any fun st => wpAny_pure ?_
    split
    · rename_i c _ _ _ _ _
      cases (c == Value.type "enumerate")
      · wp_walk using wpAny_loadPart' hol, wpAny_pyIter_tuple hT
        exact ⟨_, rfl, h⟩
      · wp_walk using wpAny_loadPart' hol, wpAny_pyIter_tuple hT
        exact ⟨_, rfl, h⟩
    · wp_walk using wpAny_loadPart' hol, wpAny_pyIter_tuple hT
      exact ⟨_, rfl, h⟩
section
variable {prog : Program} {w : World} {A : Around} {E : Value → Shared → Prop} {s : Shared}
theorem enum_callT {l : Addr} {items : Array Value} {Q : Value → Shared → Prop} (hL : s.heap.IsTuple l items)
    (h : ∀ h', IsEnum h' (s.heap.objs.size + 1) s.heap.objs.size 0 .none → h'.IsTupleIter s.heap.objs.size l 0 → h'.objs.size = s.heap.objs.size + 2 →
      (∀ b o, s.heap.get? b = some o → h'.get? b = some o) → Q (.ref (s.heap.objs.size + 1)) { s with heap := h' }) :
    wpAny (model prog w) A (call (.type "enumerate") [.ref l]) Q E s := by
  refine callType_new F.called_enumerate (by decide) (F.typeCall_enumerate_1 _) (F.newCall_enumerate_1 _) (fun obj => F.args_object_init_2 obj _) F.entry_enumerate_new
    (enum_newT l items) ⟨hL, ?_⟩
  have hz : (s.heap.push { cls := .type "tuple_iterator", data := .fields #[.ref l, .int 0 0] }).objs.size = s.heap.objs.size + 1 := Heap.size_push ..
  show _ ∧ _
  rw [hz]
  have he : IsEnum ((s.heap.push { cls := .type "tuple_iterator", data := .fields #[.ref l, .int 0 0] }).push
      { cls := .type "enumerate", data := .fields #[.none, .bool false, .ref s.heap.objs.size, rawInt 0, .none, .none] }) (s.heap.objs.size + 1) s.heap.objs.size 0 .none := by
    have := Heap.get?_push_size (s.heap.push { cls := .type "tuple_iterator", data := .fields #[.ref l, .int 0 0] })
      (o := { cls := .type "enumerate", data := .fields #[.none, .bool false, .ref s.heap.objs.size, rawInt 0, .none, .none] }) rfl
    rw [hz] at this; exact this
  refine ⟨⟨_, he, rfl⟩, h _ he ⟨_, Heap.get?_push_of_some _ (Heap.get?_push_size _ rfl), rfl, rfl⟩ (by rw [Heap.size_push, hz]) fun b o x => Heap.get?_push_of_some _ (Heap.get?_push_of_some _ x)⟩
end
/-- the tuple at a as it stands at each turn, each item in a new pair -/
def IteT (K : PySem.W.Frag) (a : Addr) : It :=
  ⟨fun i H => ∃ (xs : List V) (x : V), SqT K H a xs ∧ xs[i]? = some x, fun i H v H' => ∃ T x, v = .ref T ∧ H T = none ∧ H' = upd H T (.tup [.int (i : Nat), x]) ∧ ∀ xs, SqT K H a xs → xs[i]? = some x, fun i H => ∃ xs : List V, SqT K H a xs ∧ xs.length ≤ i⟩
theorem turn_enumT {P : Program} {w : World} {K : PySem.W.Frag} {elts : List Expr} {kk : Nat} {tpos : Pos} (a e it : Addr) :
    Turn P w K (.Tuple elts kk tpos) (IteT K a) [e, it] e (fun i h => (∃ old, IsEnum h e it ((i : Nat) : Int) old) ∧ h.IsTupleIter it a i ∧ e ≠ it ∧ a ≠ it ∧ a ≠ e) where
  mem := by simp
  obj := fun i h st b hb => by
    obtain ⟨⟨old, he⟩, ⟨o, ho, hc, hd⟩, _⟩ := st
    have e' : b = e ∨ b = it := by simpa using hb
    rcases e' with z | z
    · rw [z]; exact ⟨_, he, fun v q => nomatch q⟩
    · rw [z]; exact ⟨o, ho, fun v q => by rw [hd] at q; cases q⟩
  keep := fun i h h' st k => let ⟨⟨old, he⟩, hi, hne⟩ := st; ⟨⟨old, k e (by simp) _ he⟩, hi.at fun o q => k it (by simp) o q, hne⟩
  item := by
    intro X hP hw hK hc i pins s σ H E I hf st hg
    subst hP hw hK
    obtain ⟨⟨old, he⟩, hit, hne, hai, hae⟩ := st
    obtain ⟨xs, x, hq, hx⟩ := hg
    obtain ⟨its, rv, p, hz⟩ := I.tuple hq
    obtain ⟨u, hu, ru⟩ := rv.get hx
    have hel : e < s.heap.objs.size := Heap.lt_size he
    have hil : it < s.heap.objs.size := by obtain ⟨_, q, _⟩ := hit; exact Heap.lt_size q
    have hlt : i < its.toArray.size := by
      have := (List.getElem?_eq_some_iff.mp hu).1
      simpa using this
    have hiT : s.heap.IsTuple a its.toArray := p
    have hh : X.A.in1.handled = none := by
      have := I.ok.hd hc
      exact this
    refine wpAny_pyNext_enum_itemD (Draws.tuple hh it a hai its.toArray) he ⟨hit, hiT⟩ hlt hne (by simp [hne, hae.symm]) fun x' h' tk hP' ho hs' hT hsz hk => ?_
    have ex : x' = u := by
      have h1 : its.toArray[i]? = some u := by simpa using hu
      rw [h1] at hP'
      exact (Option.some.inj hP').symm
    subst ex
    refine ⟨_, rfl, wpAny_letOwnedTupleGo_enum (s := { s with heap := h', toks := tk + 1 }) ho fun h'' he' sb => ?_⟩
    have hT2 : h''.get? s.heap.objs.size = some { cls := .type "tuple", data := .seq #[.int i tk, x'] } := (sb.2 _ (Nat.ne_of_gt hel)).trans hT
    have new : ObjOk X.prog X.w (upd H s.heap.objs.size (.tup [.int (i : Nat), x])) h'' s.heap.objs.size (.tup [.int (i : Nat), x]) :=
      ⟨by show 2 ≤ sizeLine; decide, [.int i tk, x'], .cons ⟨_, rfl⟩ (.cons ru .nil), ⟨_, hT2, rfl, _, rfl⟩⟩
    have I1 : Inv X pins σ (upd H s.heap.objs.size (.tup [.int (i : Nat), x])) { s with heap := h'', toks := tk + 1 } :=
      I.turnedNew (ch := [e, it]) (fun b ob hb q => (sb.2 b (fun z => hb (by simp [z]))).trans (hk b ob (fun z => hb (by simp [z])) (fun z => hb (by simp [z])) q)) hf (Nat.le_refl _) new
    refine ⟨.ref s.heap.objs.size, _, I1, rfl, ⟨_, x, rfl, I.hok.fresh (Nat.le_refl _), rfl, fun ys hy => by rw [I.tuple_inj hy hq]; exact hx⟩, ⟨⟨x', ?_⟩, hs'.1.at fun o q => (sb.2 it (Ne.symm hne)).trans q, hne, hai, hae⟩, fun b hb => ?_⟩
    · have e1 : ((i + 1 : Nat) : Int) = (i : Int) + 1 := by omega
      rw [e1]; exact he'
    · have hb' : b < s.heap.objs.size := by
        have e' : b = e ∨ b = it := by simpa using hb
        rcases e' with z | z
        · rw [z]; exact hel
        · rw [z]; exact hil
      rw [upd_ne (Nat.ne_of_lt hb')]
      exact (hf b hb).1
  done := by
    intro X hP hw hK hc i pins s σ H E I hf st hg
    subst hP hw hK
    obtain ⟨⟨old, he⟩, hit, hne, hai, hae⟩ := st
    obtain ⟨xs, hq, hx⟩ := hg
    obtain ⟨its, rv, p, hz⟩ := I.tuple hq
    obtain ⟨f0, f1, f2, f3, f4, f5⟩ := hf it (by simp)
    have hl := rv.length
    have hiT : s.heap.IsTuple a its.toArray := p
    have hh : X.A.in1.handled = none := I.ok.hd hc
    have hn : its.toArray[i]? = none := by simp; omega
    have DD : Draws X.prog X.w X.A.in1 it [it, a] i (fun _ _ => False) (fun j h => j = i ∧ h.IsTupleIter it a i ∧ h.IsTuple a its.toArray) :=
      ⟨fun j h st => let ⟨o, ho, _⟩ := st.2.1; ⟨o, ho⟩, fun j h h' st hk => ⟨st.1, st.2.1.at fun o e => hk it (by simp) o e, st.2.2.at fun o e => hk a (by simp) o e⟩,
        fun j s Q E hj st _ => absurd st.1 (by omega), fun s Q E st hE => wpAny_nextOf_tuple_end hh st.2.1 st.2.2 hn hE⟩
    exact wpAny_pyNext_enum_endD DD he ⟨rfl, hit, hiT⟩ fun h' eb => ⟨rfl, I.turned (t' := s.toks) (fun b o hb q => eb b o hb q) f0 f1 f3 f4 f5⟩
  self := fun A i s Q E st h => let ⟨⟨_, he⟩, _⟩ := st; wpAny_pyIter_enum he h
def iEnumA (K : PySem.W.Frag) (te : TE) : TI := fun σ H R => te σ H fun v H1 => ∃ a, v = .ref a ∧ ((∃ xs, SqL K H1 a xs ∧ R (Ite K a) H1) ∨ (∃ xs, SqT K H1 a xs ∧ R (IteT K a) H1))
theorem pi_enumA {X : Cx} {e : Expr} {te : TE} {p pos tpos : Pos} {elts : List Expr} {kk : Nat} (hg : Gl X "enumerate") (hm : X.mg "enumerate" = none) (he : PE X e te) (hs : starEach [e] X.env = [(false, eval e X.env)] := by rfl) :
    PI X (.Tuple elts kk tpos) (.Call (.Name "enumerate" p) [e] [] pos) (iEnumA X.K te) := by
  refine ⟨fun pins s σ H R I h => ?_⟩
  refine Call_ (ld_blt I hg hm PyProof.Rows.boot_enumerate (PyProof.Rows.callWith_type1 (PyProof.Rows.args_cons (thn (he.run pins s σ H _ I h) fun u s1 ⟨v, H1, I1, r1, q1⟩ => PyProof.Rows.args_nil ?_) hs) hs rfl))
  obtain ⟨a, ex, q⟩ := q1
  subst ex
  cases r1
  have fp : ∀ b, b ∈ [s1.heap.objs.size + 1, s1.heap.objs.size] → FpOk X pins H1 b := fun b hb => by
    have e' : b = s1.heap.objs.size + 1 ∨ b = s1.heap.objs.size := by simpa using hb
    have hle : s1.heap.objs.size ≤ b := by
      rcases e' with z | z
      · rw [z]; exact Nat.le_add_right _ _
      · rw [z]; exact Nat.le_refl _
    exact I1.fpOk hle (I1.hok.fresh hle)
  rcases q with ⟨xs, hq, q⟩ | ⟨xs, hq, q⟩
  · obtain ⟨its, rv, p', hz⟩ := I1.list hq
    refine call_enumerate_list p'.isList fun h' he hit hsz hk => wpAny_pyIter_enum he ?_
    have I2 : Inv X pins σ H1 { s1 with heap := h' } := I1.kept (t' := s1.toks) hk
    exact ⟨s1.heap.objs.size + 1, [s1.heap.objs.size + 1, s1.heap.objs.size], _, _, H1, rfl, I2, turn_enum a (s1.heap.objs.size + 1) s1.heap.objs.size, ⟨⟨.none, he⟩, hit, Nat.succ_ne_self _⟩, fp, q⟩
  · obtain ⟨its, rv, p', hz⟩ := I1.tuple hq
    have hT : s1.heap.IsTuple a its.toArray := p'
    have hal : a < s1.heap.objs.size := by obtain ⟨_, z, _⟩ := hT; exact Heap.lt_size z
    refine enum_callT hT fun h' he hit hsz hk => wpAny_pyIter_enum he ?_
    have I2 : Inv X pins σ H1 { s1 with heap := h' } := I1.kept (t' := s1.toks) hk
    exact ⟨s1.heap.objs.size + 1, [s1.heap.objs.size + 1, s1.heap.objs.size], _, _, H1, rfl, I2, turn_enumT a (s1.heap.objs.size + 1) s1.heap.objs.size, ⟨⟨.none, he⟩, hit, Nat.succ_ne_self _, Nat.ne_of_lt hal, Nat.ne_of_lt (Nat.lt_succ_of_lt hal)⟩, fp, q⟩
def enumD : Nat → List D → List D
  | _, [] => []
  | n, d :: ds => .tuple [.int (n : Nat), d] :: enumD (n + 1) ds
theorem enumD_get : ∀ {ds : List D} {n i : Nat} {d : D}, (enumD n ds)[i]? = some d → ∃ a, ds[i]? = some a ∧ d = .tuple [.int ((n + i : Nat)), a]
  | [], _, _, _, h => by simp [enumD] at h
  | a :: as, n, 0, d, h => by simp [enumD] at h; exact ⟨a, rfl, h.symm⟩
  | a :: as, n, i + 1, d, h => by
    obtain ⟨b, h1, h2⟩ := enumD_get (ds := as) (n := n + 1) (i := i) (d := d) (by simpa [enumD] using h)
    exact ⟨b, by simpa using h1, by rw [h2, show n + 1 + i = n + (i + 1) by omega]⟩
theorem enumD_len : ∀ (ds : List D) (n : Nat), (enumD n ds).length = ds.length
  | [], _ => rfl
  | _ :: ds, n => congrArg Nat.succ (enumD_len ds (n + 1))
def iEnum (f : Fx D) : Fx (List D) := fun env => (f env).bind fun p => (seqD p.1).map fun ds => (enumD 0 ds, p.2)
theorem s_enum {X : Cx} {e : Expr} {f : Fx D} {p pos tpos : Pos} {elts : List Expr} {kk : Nat} (h : PE X e (tE X.K f)) (hg : Gl X "enumerate") (hm : X.mg "enumerate" = none) (hs : starEach [e] X.env = [(false, eval e X.env)]) :
    PI X (.Tuple elts kk tpos) (.Call (.Name "enumerate" p) [e] [] pos) (tI X.K (iEnum f)) := by
  refine PI.imp (pi_enumA hg hm h hs) fun σ H R ⟨F, pa, Z, env, ds, env', W, e, k⟩ => ?_
  unfold iEnum at e
  cases e1 : f env with
  | none => rw [e1] at e; cases e
  | some q =>
    rw [e1, Option.bind_some] at e
    cases e3 : seqD q.1 with
    | none => rw [e3] at e; cases e
    | some zs =>
      rw [e3] at e
      cases e
      refine ⟨F, pa, Z, env, q.1, q.2, W, e1, fun vs Z1 H1 g1 W1 q1 => ?_⟩
      generalize q.1 = dd at q1 e3
      have pair : ∀ {Z H : Hp} {T : Addr} {i : Int} {y : V} {b : D}, Same Z H → H T = none → Dp X.K Z y b → ∃ Z2, Alc Z H Z2 (upd H T (.tup [.int i, y])) ∧ Dp X.K Z2 (.ref T) (.tuple [.int i, b]) := fun {Z H T i y b} zh hT d2 => by
        have al := Alc.new (o := .tup [.int i, y]) zh hT
        exact ⟨_, al, .tup (SqT.of upd_same) (.cons (.int i) (.cons (Dp.mono al.zz _ _ d2) .nil))⟩
      cases q1 with
      | @lst a us ds' hsa ha =>
        cases e3
        refine ⟨a, rfl, .inl ⟨us, W1.zh.seq hsa, k _ Z1 H1 g1 W1 fun Z H z1 zh i => ⟨fun d hd => ?_, fun hi => ?_⟩⟩⟩
        · obtain ⟨da, hA, rfl⟩ := enumD_get hd
          obtain ⟨va, ea, qa⟩ := da_get ha hA
          have sa := zh.seq (z1.seq hsa)
          refine ⟨⟨us, va, sa, ea⟩, fun x H2 ⟨T, x1, ex, hT, eH, y1'⟩ => ?_⟩
          subst ex eH
          have t1 := y1' us sa
          rw [ea] at t1
          cases t1
          rw [Nat.zero_add]
          exact pair zh hT (Dp.mono z1 _ _ qa)
        · rw [enumD_len] at hi
          exact ⟨us, zh.seq (z1.seq hsa), by rw [da_length ha]; exact hi⟩
      | @tup a us ds' hsa ha =>
        cases e3
        refine ⟨a, rfl, .inr ⟨us, Same.sqT W1.zh hsa, k _ Z1 H1 g1 W1 fun Z H z1 zh i => ⟨fun d hd => ?_, fun hi => ?_⟩⟩⟩
        · obtain ⟨da, hA, rfl⟩ := enumD_get hd
          obtain ⟨va, ea, qa⟩ := da_get ha hA
          have sa := Same.sqT zh (Same.sqT z1 hsa)
          refine ⟨⟨us, va, sa, ea⟩, fun x H2 ⟨T, x1, ex, hT, eH, y1'⟩ => ?_⟩
          subst ex eH
          have t1 := y1' us sa
          rw [ea] at t1
          cases t1
          rw [Nat.zero_add]
          exact pair zh hT (Dp.mono z1 _ _ qa)
        · rw [enumD_len] at hi
          exact ⟨us, Same.sqT zh (Same.sqT z1 hsa), by rw [da_length ha]; exact hi⟩
      | _ => cases e3
end Ev
namespace Ev
open PySem PySem.Spec PyProof.Rows L2
theorem andB {a b : Bool} (h : (a && b) = true) : a = true ∧ b = true := by simpa using h
/-! ## sorted -/
section
variable {X : Cx}
theorem isPair_inj {h : Heap} {v : Value} {x y x' y' : Int} (a : Srt.IsPair h v x y) (b : Srt.IsPair h v x' y') : x = x' ∧ y = y' := by
  obtain ⟨p, o, t, u, n, rfl, h1, h2, h3⟩ := a
  obtain ⟨p', o', t', u', n', e, h1', h2', h3'⟩ := b
  cases e
  rw [h1] at h1'
  cases h1'
  rw [h3] at h3'
  cases h3'
  exact ⟨rfl, rfl⟩
def tupAt (K : PySem.W.Frag) (H : Hp) (y : V) (p : Int × Int) : Prop := ∃ t, y = .ref t ∧ SqT K H t [.int p.1, .int p.2]
def lexLe (p q : Int × Int) : Bool := !SrtO.lexB q p
def rSortedP (K : PySem.W.Frag) : List V → Hp → VK → Prop := fun vs H Q => ∃ (a : Addr) (ys : List V) (ks : List (Int × Int)), vs = [V.ref a] ∧ SqL K H a ys ∧ ys.length = ks.length ∧ (∀ (i : Nat) (y : V) (p : Int × Int), ys[i]? = some y → ks[i]? = some p → tupAt K H y p) ∧
  ∀ (zs : List V) (ks' : List (Int × Int)) (p : Addr), zs.length = ks'.length → (∀ (i : Nat) (y : V) (p : Int × Int), zs[i]? = some y → ks'[i]? = some p → ∃ j : Nat, ys[j]? = some y ∧ ks[j]? = some p) → ks'.Perm ks → ks'.Pairwise (fun p q => lexLe p q = true) → H p = none → Q (.ref p) (upd H p (.lst zs))
theorem cr_sortedP : CallR X (.builtin "sorted") (rSortedP X.K) := by
  intro pins s σ H vs us Q I r h
  obtain ⟨a, ys, ks, rfl, hs, hl, ht, q⟩ := h
  obtain ⟨its, rv, pl, hz⟩ := I.list hs
  rw [Vals.ref1 r]
  have hli : ys.length = its.length := rv.length
  obtain ⟨b1, b2⟩ := refs_back rv fun x m => by
    obtain ⟨i, hi⟩ := List.mem_iff_getElem?.mp m
    have hk : i < ks.length := by have := (List.getElem?_eq_some_iff.mp hi).1; omega
    obtain ⟨t, e, _⟩ := ht i x ks[i] hi (List.getElem?_eq_getElem hk)
    exact ⟨t, e⟩
  have pr : ∀ (i : Nat) (v : Value) (p : Int × Int), its[i]? = some v → ks[i]? = some p → Srt.IsPair s.heap v p.1 p.2 ∧ tupAt X.K H (backV v) p := fun i v p hv hp => by
    have hb : ys[i]? = some (backV v) := by rw [b1, List.getElem?_map, hv]; rfl
    obtain ⟨t, et, hq⟩ := ht i _ p hb hp
    obtain ⟨a', ea⟩ := b2 v (List.mem_of_getElem? hv)
    subst ea
    have : a' = t := by cases et; rfl
    subst this
    obtain ⟨its2, r2, hT, _⟩ := I.tuple hq
    obtain ⟨u1, u2, rfl, ri, rj⟩ := vals2 r2
    obtain ⟨t1, rfl⟩ := ri
    obtain ⟨t2, rfl⟩ := rj
    obtain ⟨o, ho, hc, n, hd⟩ := hT
    exact ⟨⟨a', o, t1, t2, n, rfl, ho, hc, hd⟩, a', rfl, hq⟩
  have hk : ∀ v : Value, ∃ p : Int × Int, (∃ p : Int × Int, Srt.IsPair s.heap v p.1 p.2) → Srt.IsPair s.heap v p.1 p.2 := fun v => by
    by_cases c : ∃ p : Int × Int, Srt.IsPair s.heap v p.1 p.2
    · obtain ⟨p, hp⟩ := c
      exact ⟨p, fun _ => hp⟩
    · exact ⟨(0, 0), fun z => absurd z c⟩
  obtain ⟨k, hk⟩ := Classical.axiomOfChoice hk
  have kp : ∀ (i : Nat) (v : Value) (p : Int × Int), its[i]? = some v → ks[i]? = some p → k v = p := fun i v p hv hp => by
    have h1 := (pr i v p hv hp).1
    have h2 := hk v ⟨p, h1⟩
    obtain ⟨e1, e2⟩ := isPair_inj h2 h1
    exact Prod.ext e1 e2
  have hmap : its.map k = ks := by
    refine List.ext_getElem? fun i => ?_
    rw [List.getElem?_map]
    by_cases hi : i < its.length
    · have e1 := List.getElem?_eq_getElem hi
      have hi2 : i < ks.length := by omega
      have e2 := List.getElem?_eq_getElem hi2
      rw [e1, e2, Option.map_some, kp i _ _ e1 e2]
    · rw [List.getElem?_eq_none (by omega), List.getElem?_eq_none (by omega)]
      rfl
  have tm : ∀ v ∈ its, Srt.IsPair s.heap v (k v).1 (k v).2 ∧ tupAt X.K H (backV v) (k v) := fun v hv => by
    obtain ⟨i, hi⟩ := List.mem_iff_getElem?.mp hv
    have hk2 : i < ks.length := by have := (List.getElem?_eq_some_iff.mp hi).1; omega
    have e2 := List.getElem?_eq_getElem hk2
    rw [kp i v _ hi e2]
    exact pr i v _ hi e2
  refine SrtO.sorted_ord (SrtO.swo_lex k) pl.isList (by rw [← hli]; exact hz) (fun h2 h₁ a' ha' kk => ?_) fun out h1 h2 => ?_
  · refine SrtO.pairs_sortableO (s := { s with heap := h₁ }) (by omega) (fun v hm => (tm v hm).1.keeps fun b o e _ => (kk b o e).2) fun o e => ?_
    have e' : some o = some (seqObj "list" its.toArray 0) := e.symm.trans ha'
    cases e'
    intro c
    exact absurd (Value.type.inj c) (by decide)
  · obtain ⟨ep, he'⟩ := PyProof.Rows.sortedAll_at s.heap its out.toArray
    have hmem : ∀ v ∈ out, v ∈ its := fun v hv => h2.perm.mem_iff.mp hv
    have h3 : ∀ u ∈ out, ∃ a, u = Value.ref a := fun u hu => b2 u (hmem u hu)
    have hlo : out.length = its.length := h2.len
    have hlen : (out.map backV).length ≤ sizeLine := by rw [List.length_map, hlo, ← hli]; exact hz
    refine ⟨.ref _, upd H (s.heap.objs.size + 1) (.lst (out.map backV)), I.laid (t' := s.toks) (fun _ _ => PyProof.Rows.sortedAll_old) (Nat.le_succ _) ⟨hlen, out, ep, vals_back h3, he'⟩, rfl, q (out.map backV) (out.map k) _ (by rw [List.length_map, List.length_map]) (fun i y p hy hp => ?_) ?_ ?_ (I.hok.fresh (Nat.le_succ _))⟩
    · rw [List.getElem?_map] at hy hp
      cases e : out[i]? with
      | none => rw [e] at hy; cases hy
      | some v =>
        rw [e] at hy hp
        cases hy; cases hp
        obtain ⟨j, hj⟩ := List.mem_iff_getElem?.mp (hmem v (List.mem_of_getElem? e))
        have hk2 : j < ks.length := by have := (List.getElem?_eq_some_iff.mp hj).1; omega
        have e2 := List.getElem?_eq_getElem hk2
        refine ⟨j, ?_, ?_⟩
        · rw [b1, List.getElem?_map, hj]; rfl
        · rw [e2, kp j v _ hj e2]
    · rw [← hmap]
      exact h2.perm.map k
    · refine List.pairwise_map.mpr (h1.imp fun {x y} h => ?_)
      show (!SrtO.lexB (k y) (k x)) = true
      have h' : SrtO.lexB (k y) (k x) = false := h
      rw [h']
      rfl
end
def sortI (ns : List Int) : List Int := ns.mergeSort fun i j => decide (i ≤ j)
theorem sortI_perm (ns : List Int) : (sortI ns).Perm ns := List.mergeSort_perm ..
theorem sortI_le (ns : List Int) : (sortI ns).Pairwise (· ≤ ·) :=
  (List.pairwise_mergeSort (le := fun i j => decide (i ≤ j)) (fun a b c h1 h2 => decide_eq_true (Int.le_trans (of_decide_eq_true h1) (of_decide_eq_true h2))) (fun a b => by
    by_cases h : a ≤ b
    · simp [h]
    · simp [h]; omega) ns).imp fun h => of_decide_eq_true h
theorem sortI_uniq {ns ns' : List Int} (h1 : ns'.Perm ns) (h2 : ns'.Pairwise (· ≤ ·)) : ns' = sortI ns :=
  List.Perm.eq_of_pairwise (fun a b _ _ h1 h2 => Int.le_antisymm h1 h2) h2 (sortI_le ns) (h1.trans (sortI_perm ns).symm)
def sortP (ps : List (Int × Int)) : List (Int × Int) := ps.mergeSort lexLe
theorem lexLe_iff {p q : Int × Int} : lexLe p q = true ↔ p.1 < q.1 ∨ (p.1 = q.1 ∧ p.2 ≤ q.2) := by
  unfold lexLe
  rw [Bool.not_eq_true', SrtO.lexB_no]
  omega
theorem sortP_perm (ps : List (Int × Int)) : (sortP ps).Perm ps := List.mergeSort_perm ..
theorem sortP_le (ps : List (Int × Int)) : (sortP ps).Pairwise (fun p q => lexLe p q = true) :=
  List.pairwise_mergeSort (le := lexLe) (fun a b c h1 h2 => by rw [lexLe_iff] at h1 h2 ⊢; omega) (fun a b => by
    cases h : lexLe a b with
    | true => rfl
    | false =>
      have : ¬ (lexLe a b = true) := by rw [h]; decide
      rw [lexLe_iff] at this
      show (false || lexLe b a) = true
      rw [Bool.false_or, lexLe_iff]
      omega) ps
theorem sortP_uniq {ps ps' : List (Int × Int)} (h1 : ps'.Perm ps) (h2 : ps'.Pairwise (fun p q => lexLe p q = true)) : ps' = sortP ps :=
  List.Perm.eq_of_pairwise (fun a b _ _ h1 h2 => by rw [lexLe_iff] at h1 h2; exact Prod.ext (by omega) (by omega)) h2 (sortP_le ps) (h1.trans (sortP_perm ps).symm)
/-- pairs of ints -/
def pairsOf : List D → Option (List (Int × Int))
  | [] => some []
  | .tuple [.int i, .int j] :: ds => (pairsOf ds).map ((i, j) :: ·)
  | _ => none
def eP2 (p : Int × Int) : D := .tuple [.int p.1, .int p.2]
theorem pairsOf_eq : ∀ {ds : List D} {ps : List (Int × Int)}, pairsOf ds = some ps → ds = ps.map eP2
  | [], ps, h => by cases h; rfl
  | d :: ds, ps, h => by
    unfold pairsOf at h
    split at h
    · rename_i e; cases e
    · rename_i i j ds' e
      cases e
      cases h2 : pairsOf ds with
      | none => rw [h2] at h; cases h
      | some qs =>
        rw [h2] at h
        cases h
        rw [pairsOf_eq h2]
        rfl
    · cases h
def gSorted : List D → Option D
  | [.list ds] => (match intsOf ds with
    | some ns => some (.list ((sortI ns).map .int))
    | none => (match pairsOf ds with
      | some ps => some (.list ((sortP ps).map eP2))
      | none => none))
  | _ => none
section
variable {X : Cx}
def gSortedI : List D → Option D
  | [.list ds] => (intsOf ds).map fun ns => .list ((sortI ns).map .int)
  | _ => none
def gSortedP : List D → Option D
  | [.list ds] => (pairsOf ds).map fun ps => .list ((sortP ps).map eP2)
  | _ => none
theorem ints_daS {K : PySem.W.Frag} {Z : Hp} : ∀ ns : List Int, DpAll K Z (ns.map V.int) (ns.map PyData.int)
  | [] => .nil
  | n :: ns => .cons (.int n) (ints_daS ns)
theorem c_sortedI : CallD X (.builtin "sorted") gSortedI := ⟨_, cr_sortedI, by
  intro Z H vs ds z Q zh q hz k
  unfold gSortedI at hz
  split at hz
  · rename_i ds'
    cases q with
    | cons h1 h2 =>
      cases h2
      cases h1 with
      | @lst a us _ hs ha =>
        cases e : intsOf ds' with
        | none => rw [e] at hz; cases hz
        | some ns =>
          rw [e] at hz
          cases hz
          have e2 := intsOf_da ha e
          subst e2
          refine ⟨a, ns, rfl, zh.seq hs, fun ns' p h1 h2 hp => ?_⟩
          have e3 := sortI_uniq h1 h2
          subst e3
          have al := Alc.new (o := .lst ((sortI ns).map V.int)) zh hp
          exact k _ _ _ al (.lst (SqL.of upd_same) (ints_daS _))
  · cases hz⟩
theorem tups_da {K : PySem.W.Frag} {Z : Hp} : ∀ (zs : List V) (ks : List (Int × Int)), zs.length = ks.length → (∀ (i : Nat) (y : V) (p : Int × Int), zs[i]? = some y → ks[i]? = some p → tupAt K Z y p) → DpAll K Z zs (ks.map eP2)
  | [], [], _, _ => .nil
  | [], _ :: _, h, _ => by simp at h
  | _ :: _, [], h, _ => by simp at h
  | z :: zs, p :: ks, h, ht => by
    obtain ⟨t, rfl, hq⟩ := ht 0 z p rfl rfl
    exact .cons (.tup hq (.cons (.int _) (.cons (.int _) .nil))) (tups_da zs ks (by simpa using h) fun i y q a b => ht (i + 1) y q (by simpa using a) (by simpa using b))
theorem tupAt.of {K : PySem.W.Frag} {Z : Hp} {v : V} {p : Int × Int} (h : Dp K Z v (eP2 p)) : tupAt K Z v p := by
  cases h with
  | @tup a us _ hs ha =>
    cases ha with
    | cons h1 h2 =>
      cases h2 with
      | cons h3 h4 =>
        cases h4; cases h1; cases h3
        exact ⟨a, rfl, hs⟩
theorem tupAt.mono {K : PySem.W.Frag} {Z Z' : Hp} (s : Same Z Z') {v : V} {p : Int × Int} (h : tupAt K Z v p) : tupAt K Z' v p := by
  obtain ⟨t, e, hq⟩ := h
  exact ⟨t, e, Same.sqT s hq⟩
theorem c_sortedP : CallD X (.builtin "sorted") gSortedP := ⟨_, cr_sortedP, by
  intro Z H vs ds z Q zh q hz k
  unfold gSortedP at hz
  split at hz
  · rename_i ds'
    cases q with
    | cons h1 h2 =>
      cases h2
      cases h1 with
      | @lst a us _ hs ha =>
        cases e : pairsOf ds' with
        | none => rw [e] at hz; cases hz
        | some ps =>
          rw [e] at hz
          cases hz
          have e2 := pairsOf_eq e
          subst e2
          refine ⟨a, us, ps, rfl, zh.seq hs, by rw [da_length ha, List.length_map], fun i y p hy hp => ?_, fun zs ks' p h0 h1 h2 h3 hp => ?_⟩
          · obtain ⟨d, ed, qd⟩ := da_getV ha hy
            rw [List.getElem?_map, hp] at ed
            cases ed
            exact (tupAt.of qd).mono zh
          · have e3 := sortP_uniq h2 h3
            subst e3
            have al := Alc.new (o := .lst zs) zh hp
            -- what zs holds is frozen already
            have fz : ∀ (i : Nat) (y : V) (q : Int × Int), zs[i]? = some y → (sortP ps)[i]? = some q → tupAt X.K Z y q := fun i y q hy hq => by
              obtain ⟨j, j1, j2⟩ := h1 i y q hy hq
              obtain ⟨d, ed, qd⟩ := da_getV ha j1
              rw [List.getElem?_map, j2] at ed
              cases ed
              exact tupAt.of qd
            exact k _ _ _ al (.lst (SqL.of upd_same) (tups_da zs _ h0 fun i y q a b => (fz i y q a b).mono al.zz))
  · cases hz⟩
end
section
variable {X : Cx}
/-! ## lcm -/
def lcmOk (i j : Int) : Bool := decide (i.natAbs < 2 ^ 64) && decide (j.natAbs < 2 ^ 64)
def gLcm : List D → Option D := g2I lcmOk fun i j => .int (Nat.lcm i.natAbs j.natAbs)
theorem cr_lcm : CallR X (.builtin "math.lcm") (fun vs H Q => ∃ a b : Int, vs = [.int a, .int b] ∧ a.natAbs < 2 ^ 64 ∧ b.natAbs < 2 ^ 64 ∧ Q (.int ((Nat.lcm a.natAbs b.natAbs : Nat) : Int)) H) := by
  intro pins s σ H vs us Q I r h
  obtain ⟨a, b, rfl, ha, hb, q⟩ := h
  obtain ⟨t, u, rfl⟩ := Vals.int2 r
  exact PySem.W.mc_lcm ha hb fun _ => ⟨.int _, H, I.tok _, ⟨_, rfl⟩, q⟩
theorem c_lcm : CallD X (.builtin "math.lcm") gLcm := ⟨_, cr_lcm, by
  intro Z H vs ds z Q zh q hz k
  obtain ⟨i, j, rfl, hc, rfl⟩ := two_int q hz
  obtain ⟨c1, c2⟩ := andB hc
  exact ⟨i, j, rfl, of_decide_eq_true c1, of_decide_eq_true c2, k _ Z H (.refl zh) (.int _)⟩⟩
/-! ## repr of ints, True, False, None -/
def gRepr : List D → Option D
  | [.int i] => if i.natAbs.log2 < 1920 then some (.str (toString i)) else none
  | [.bool b] => some (.str (if b = true then "True" else "False"))
  | [.none] => some (.str "None")
  | _ => none
theorem cr_repr : CallR X (.builtin "repr") (fun vs H Q => (∃ i : Int, vs = [.int i] ∧ i.natAbs.log2 < 1920 ∧ Q (.str (toString i)) H) ∨ (∃ b, vs = [.bl b] ∧ Q (.str (if b = true then "True" else "False")) H) ∨ (vs = [.non] ∧ Q (.str "None") H)) := by
  intro pins s σ H vs us Q I r h
  rcases h with ⟨i, rfl, hz, q⟩ | ⟨b, rfl, q⟩ | ⟨rfl, q⟩
  · obtain ⟨u, rfl, t, rfl⟩ := vals1 r
    exact PySem.P.repr_of_int hz ⟨.str _, H, I.tok _, ⟨_, rfl⟩, q⟩
  · obtain ⟨u, rfl, ru⟩ := vals1 r
    cases ru
    exact PySem.P.repr_of_bool ⟨.str _, H, I.tok _, ⟨_, rfl⟩, by cases b <;> exact q⟩
  · obtain ⟨u, rfl, ru⟩ := vals1 r
    cases ru
    exact PySem.P.repr_of_none ⟨.str _, H, I.tok _, ⟨_, rfl⟩, q⟩
theorem c_repr : CallD X (.builtin "repr") gRepr := ⟨_, cr_repr, by
  intro Z H vs ds z Q zh q hz k
  unfold gRepr at hz
  split at hz
  · split at hz
    · cases hz
      cases q with
      | cons h1 h2 =>
        cases h2; cases h1
        exact .inl ⟨_, rfl, by assumption, k _ Z H (.refl zh) (.str _)⟩
    · cases hz
  · cases hz
    cases q with
    | cons h1 h2 =>
      cases h2; cases h1
      exact .inr (.inl ⟨_, rfl, k _ Z H (.refl zh) (.str _)⟩)
  · cases hz
    cases q with
    | cons h1 h2 =>
      cases h2; cases h1
      exact .inr (.inr ⟨rfl, k _ Z H (.refl zh) (.str _)⟩)
  · cases hz⟩
theorem c_sorted : CallD X (.builtin "sorted") gSorted := c_sortedI.or c_sortedP fun x z h => by
  unfold gSorted at h
  split at h
  · rename_i ds
    split at h
    · rename_i ns e
      cases h
      left
      show (intsOf ds).map _ = _
      rw [e]; rfl
    · split at h
      · rename_i ps e
        cases h
        right
        show (pairsOf ds).map _ = _
        rw [e]; rfl
      · cases h
  · cases h
/-! ## range with a step -/
def rg3Ok (i j c : Int) : Bool := decide (c ≠ 0) && (decide (c.natAbs < 1073741824) && Builtin.Range.small i j c)
def rangeC (i c : Int) (n : Nat) : List D := (List.range n).map fun k => .int (i + (k : Nat) * c)
def iRange3 (f g h : Fx D) : Fx (List D) := fun env => match f env with
  | some (.int i, e) => (match g e with
    | some (.int j, e2) => (match h e2 with
      | some (.int c, e3) => if rg3Ok i j c = true ∧ 0 ≤ Builtin.Range.rangeSize i j c then some (rangeC i c (Builtin.Range.rangeSize i j c).toNat, e3) else none
      | _ => none)
    | _ => none)
  | _ => none
theorem rangeC_it (K : PySem.W.Frag) (Z1 : Hp) (lo c : Int) (n : Nat) : ItOk K Z1 (Itc lo c n) (rangeC lo c n) := by
  intro Z H _ zh i
  refine ⟨fun d hd => ?_, fun hi => (show n ≤ i by simpa [rangeC] using hi)⟩
  unfold rangeC at hd
  rw [List.getElem?_map] at hd
  cases e : (List.range n)[i]? with
  | none => rw [e] at hd; cases hd
  | some k =>
    rw [e] at hd; cases hd
    obtain ⟨hk, ek⟩ := List.getElem?_eq_some_iff.mp e
    rw [List.getElem_range] at ek
    subst ek
    refine ⟨show i < n by simpa using hk, fun x H2 ⟨e1, e2⟩ => ?_⟩
    subst e1 e2
    exact ⟨Z, .refl zh, .int _⟩
theorem s_range3 {tg a b c : Expr} {p pos : Pos} {fa fb fc : Fx D} (h1 : PE X a (tE X.K fa)) (h2 : PE X b (tE X.K fb)) (h3 : PE X c (tE X.K fc)) (hg : Gl X "range") (hm : X.mg "range" = none)
    (s1 : starEach [a, b, c] X.env = (false, eval a X.env) :: starEach [b, c] X.env) (s2 : starEach [b, c] X.env = (false, eval b X.env) :: starEach [c] X.env) (s3 : starEach [c] X.env = (false, eval c X.env) :: starEach [] X.env) :
    PI X tg (.Call (.Name "range" p) [a, b, c] [] pos) (tI X.K (iRange3 fa fb fc)) := by
  refine PI.imp (pi_range3 hg hm (pa_cons h1 (pa_cons h2 (pa_cons h3 pa_nil s3) s2) s1) s1 (by rw [s2, s3]; rfl)) fun σ H R ⟨F, pa, Z, env, ds, env', W, e, k⟩ => ?_
  unfold iRange3 at e
  split at e
  · rename_i i env1 e1
    split at e
    · rename_i j env2 e2
      split at e
      · rename_i c env3 e3
        split at e
        · rename_i hc
          cases e
          obtain ⟨c1, c2⟩ := andB hc.1
          obtain ⟨c2, c3⟩ := andB c2
          refine ⟨F, pa, Z, env, _, _, W, e1, fun v Z1 H1 g1 W1 q1 => ?_⟩
          cases q1
          refine ⟨F, pa, Z1, _, _, _, W1, e2, fun v Z2 H2 g2 W2 q2 => ?_⟩
          cases q2
          refine ⟨F, pa, Z2, _, _, _, W2, e3, fun v Z3 H3 g3 W3 q3 => ?_⟩
          cases q3
          refine ⟨i, j, c, (Builtin.Range.rangeSize i j c).toNat, rfl, ⟨of_decide_eq_true c1, of_decide_eq_true c2, c3, by omega⟩, k _ Z3 H3 ((g1.trans g2).trans g3) W3 (rangeC_it _ _ _ _ _)⟩
        · cases e
      · cases e
    · cases e
  · cases e
end
end Ev
namespace Ev
open PySem PySem.Spec PyProof.Rows L2
/-! ## comprehensions of two clauses -/
theorem wipeE_idem (vs ws : List Nat) (env : En) (hs : ∀ v ∈ vs, v ∈ ws) : wipeE (wipeE env ws) vs = wipeE env ws := by
  refine List.ext_getElem? fun i => ?_
  by_cases hi : i ∈ vs
  · have hl : (wipeE (wipeE env ws) vs).length = (wipeE env ws).length := wipeE_length _ _
    by_cases hb : i < (wipeE env ws).length
    · have e1 : (wipeE (wipeE env ws) vs)[i]? = some ((wipeE (wipeE env ws) vs)[i]'(by rw [hl]; exact hb)) := by simp [hl, hb]
      have e2 : (wipeE env ws)[i]? = some ((wipeE env ws)[i]) := by simp [hb]
      rw [e1, e2, wipeE_in hi e1, wipeE_in (hs i hi) e2]
    · rw [List.getElem?_eq_none (by omega), List.getElem?_eq_none (by omega)]
  · rw [wipeE_out hi]
theorem wipe_in' {σ : L2.St} {j : Nat} : ∀ {vs : List Nat}, j ∈ vs → j < σ.length → (wipe σ vs)[j]? = some none
  | [], h, _ => by cases h
  | v :: vs, h, hl => by
    unfold wipe
    by_cases hv : v = j
    · subst hv; rw [List.getElem?_set_self (by rw [wipe_length]; exact hl)]
    · rw [List.getElem?_set_ne hv]
      exact wipe_in' ((List.mem_cons.mp h).resolve_left fun z => hv z.symm) hl
theorem wipe_same {σ σ5 : L2.St} {vs sl : List Nat} (hsl : ∀ i ∈ sl, i ∈ vs) (l5 : σ5.length = (wipe σ vs).length) (k5 : ∀ i, i ∉ sl → σ5[i]? = (wipe σ vs)[i]?) : wipe σ5 vs = wipe σ vs := by
  refine List.ext_getElem? fun j => ?_
  have hlen : (wipe σ vs).length = σ.length := wipe_length σ vs
  by_cases hj : j ∈ vs
  · by_cases hb : j < σ.length
    · rw [wipe_in' hj (by rw [l5, hlen]; exact hb), wipe_in' hj hb]
    · rw [List.getElem?_eq_none (by rw [wipe_length, l5, hlen]; omega), List.getElem?_eq_none (by rw [hlen]; omega)]
  · rw [wipe_out' hj, k5 j (fun z => hj (hsl j z))]
/-- what holds between two turns -/
def LcI (K : PySem.W.Frag) (F : Hp) (pa : Nat → Option Addr) (p : Addr) (τ : L2.St) (vs : List Nat) (Z1 : Hp) (R : List D → En → Prop) (H : Hp) : Prop :=
  ∃ Z2 env3 us acc, Gr F Z1 Z2 ∧ Z2 p = none ∧ H p = some (.lst us) ∧ DpAll K Z2 us acc ∧ Wst K (upd F p (.lst us)) Z2 H pa τ env3 ∧ wipeE env3 vs = env3 ∧ R acc env3
theorem lcIn_of {K : PySem.W.Frag} {sl : List Nat} {g : Gf} {c : Fx Bool} {f : Fx D} {vs : List Nat} (hsl : ∀ i ∈ sl, i ∈ vs) {F : Hp} {pa : Nat → Option Addr} {p : Addr} (fp : F p = none) {ds : List D} {J : It} {Z1 : Hp} (io : ItOk K Z1 J ds) {σ : L2.St} {Nx : Hp → Prop} {res : List D} {env2 : En} {H4 : Hp}
    (fin : ∀ H, LcI K F pa p (wipe σ vs) vs Z1 (fun acc e => acc = res ∧ e = env2) H → Nx H) (st : LcI K F pa p (wipe σ vs) vs Z1 (fun acc e => compL g c f vs ds acc e = some (res, env2)) H4) :
    ∃ W1 : Nat → Nat → Hp → Prop, (∃ m, W1 0 m H4) ∧ ∀ j k H, W1 j k H →
      (J.stop j H ∧ Nx H) ∨ (J.go j H ∧ ∃ Nx1 : Hp → Prop, (∀ H', Nx1 H' → ∃ k', k' < k ∧ W1 (j + 1) k' H') ∧ ∀ x H', J.yld j H x H' → tG K sl g x (wipe σ vs) H' fun σ3 H5 => wipe σ3 vs = wipe σ vs ∧ tT K c σ3 H5 fun b H6 =>
        if b = true then tE K f σ3 H6 fun y H7 => ∃ acc, H7 p = some (.lst acc) ∧ acc.length < sizeLine ∧ Nx1 (upd H7 p (.lst (acc ++ [y]))) else Nx1 H6) := by
  refine ⟨fun i m H => m = ds.length - i ∧ LcI K F pa p (wipe σ vs) vs Z1 (fun acc e => compL g c f vs (ds.drop i) acc e = some (res, env2)) H, ⟨_, rfl, by simpa using st⟩, ?_⟩
  rintro i m H ⟨rfl, Z2, env3, us, acc, g2, z2, hH, da, W2, wz, e2⟩
  obtain ⟨io1, io2⟩ := io Z2 H g2.zz W2.zh i
  by_cases hi : i < ds.length
  · rw [List.drop_eq_getElem_cons hi] at e2
    obtain ⟨jg, jy⟩ := io1 ds[i] (by simp [hi])
    refine .inr ⟨jg, fun H' => LcI K F pa p (wipe σ vs) vs Z1 (fun acc e => compL g c f vs (ds.drop (i + 1)) acc e = some (res, env2)) H', fun H' q => ⟨ds.length - (i + 1), by omega, rfl, q⟩, fun x H2 y => ?_⟩
    obtain ⟨Z3, al, dp⟩ := jy x H2 y
    unfold compL at e2
    split at e2
    · rename_i env4 h4
      have W3 := W2.alc al
      have sf : Same F (upd F p (.lst us)) := upd_none fp
      refine ⟨_, pa, Z3, env3, _, env4, W3, dp, h4, fun σ5 Z5 H5 g5 W5 l5 k5 => ⟨wipe_same hsl l5 k5, ?_⟩⟩
      have l5' : (wipe σ vs).length = σ5.length := l5.symm
      have s5 : ∀ i, i ∉ vs → (wipe σ vs)[i]? = σ5[i]? := fun i h => (k5 i fun z => h (hsl i z)).symm
      have gz : ∀ {Z : Hp}, Gr (upd F p (.lst us)) Z5 Z → Z p = none := fun {Z} g => by
        rw [g.nf p (by rw [upd_same]; exact fun z => nomatch z), g5.nf p (by rw [upd_same]; exact fun z => nomatch z)]
        by_cases q : Z3 p = none
        · exact q
        · have : Z3 p = Z2 p := al.nw p (by rw [hH]; exact fun z => nomatch z)
          rw [this]; exact z2
      split at e2
      · rename_i env5 h5
        refine ⟨_, pa, Z5, env4, true, env5, W5, h5, fun Z6 H6 g6 W6 => iteT ?_⟩
        split at e2
        · rename_i yy env6 h6
          refine ⟨_, pa, Z6, env5, yy, env6, W6, h6, fun v Z7 H7 g7 W7 q7 => ?_⟩
          by_cases hl : acc.length < sizeLine
          · rw [if_pos hl] at e2
            have g37 : Gr (upd F p (.lst us)) Z5 Z7 := g6.trans g7
            have p7 : H7 p = some (.lst us) := W7.fh p _ upd_same
            have zz : Same Z2 Z7 := al.zz.trans (g5.zz.trans g37.zz)
            refine ⟨us, p7, by rw [da_length da]; exact hl, Z7, wipeE env6 vs, us ++ [v], acc ++ [yy], ?_, gz g37, upd_same, da_append (DpAll.mono zz _ _ da) (.cons q7 .nil), (W7.wipeTo l5' s5).updF (gz g37), wipeE_idem _ _ _ fun _ h => h, e2⟩
            exact g2.trans (((al.gr W2.fh).trans (g5.trans g37)).frame sf)
          · rw [if_neg hl] at e2; cases e2
        · cases e2
      · rename_i env5 h5
        refine ⟨_, pa, Z5, env4, false, env5, W5, h5, fun Z6 H6 g6 W6 => iteF ?_⟩
        have zz : Same Z2 Z6 := al.zz.trans (g5.zz.trans g6.zz)
        exact ⟨Z6, wipeE env5 vs, us, acc, g2.trans (((al.gr W2.fh).trans (g5.trans g6)).frame sf), gz g6, W6.fh p _ upd_same, DpAll.mono zz _ _ da, W6.wipeTo l5' s5, wipeE_idem _ _ _ fun _ h => h, e2⟩
      · cases e2
    · cases e2
  · rw [List.drop_eq_nil_of_le (by omega)] at e2
    cases e2
    exact .inl ⟨io2 (by omega), fin H ⟨Z2, _, us, _, g2, z2, hH, da, W2, wz, rfl, rfl⟩⟩
def compL2 (g : Gf) (c : Fx Bool) (it1 : Fx (List D)) (g1 : Gf) (c1 : Fx Bool) (f : Fx D) (vs vs1 : List Nat) : List D → List D → Fx (List D)
  | [], acc => fun env => some (acc, env)
  | d :: ds, acc => fun env => match g d env with
    | some e1 => (match c e1 with
      | some (true, e2) => (match it1 e2 with
        | some (ds1, e3) => (match compL g1 c1 f vs1 ds1 acc (wipeE e3 vs1) with
          | some (acc2, e4) => compL2 g c it1 g1 c1 f vs vs1 ds acc2 (wipeE e4 vs)
          | none => none)
        | none => none)
      | some (false, e2) => compL2 g c it1 g1 c1 f vs vs1 ds acc (wipeE e2 vs)
      | none => none)
    | none => none
def eComp2 (it : Fx (List D)) (g : Gf) (c : Fx Bool) (it1 : Fx (List D)) (g1 : Gf) (c1 : Fx Bool) (f : Fx D) (vs vs1 : List Nat) : Fx R := fun env => match it env with
  | some (ds, e) => (compL2 g c it1 g1 c1 f vs vs1 ds [] (wipeE e vs)).map fun p => (.fresh p.1, p.2)
  | none => none
theorem tLc2_of {K : PySem.W.Frag} {it it1 : Fx (List D)} {sl sl1 : List Nat} {g g1 : Gf} {c c1 : Fx Bool} {f : Fx D} {vs vs1 : List Nat} (hsl : ∀ i ∈ sl, i ∈ vs) (hsl1 : ∀ i ∈ sl1, i ∈ vs1) (hvv : ∀ i ∈ vs1, i ∈ vs) {σ : L2.St} {H : Hp} {Q : VK} (h : tR K (eComp2 it g c it1 g1 c1 f vs vs1) σ H Q) :
    tLc2 (tI K it) (tG K sl g) (tT K c) (tI K it1) (tG K sl1 g1) (tT K c1) (tE K f) vs vs1 σ H Q := by
  obtain ⟨F, pa, Z, env, r, env', W, e, k⟩ := h
  unfold eComp2 at e
  split at e
  · rename_i ds env1 h1
    cases h2 : compL2 g c it1 g1 c1 f vs vs1 ds [] (wipeE env1 vs) with
    | none => rw [h2] at e; cases e
    | some q =>
      obtain ⟨res, env2⟩ := q
      rw [h2] at e
      cases e
      refine ⟨F, pa, Z, env, ds, env1, W, h1, fun J Z1 H1 g1' W1 io p hp => ?_⟩
      have fp : F p = none := W1.fh.free hp
      have zp : Z1 p = none := W1.zh.free hp
      refine ⟨fun i m H => m = ds.length - i ∧ LcI K F pa p (wipe σ vs) vs Z1 (fun acc e => compL2 g c it1 g1 c1 f vs vs1 (ds.drop i) acc e = some (res, env2)) H,
        ⟨_, rfl, Z1, wipeE env1 vs, [], [], .refl .., zp, upd_same, .nil, ?_, wipeE_idem _ _ _ fun _ h => h, by rw [List.drop_zero]; exact h2⟩, ?_⟩
      · have W2 : Wst K (upd F p (.lst [])) Z1 (upd H1 p (.lst [])) pa σ env1 := by
          have al : Alc Z1 H1 Z1 (upd H1 p (.lst [])) := ⟨Same.refl _, upd_none hp, fun b u e => by rw [upd_ne (fun z => by subst z; rw [zp] at e; cases e)]; exact W1.zh b u e, fun _ _ => rfl⟩
          refine (W1.alc al).frameUp upd_same fun i o s e1 e2 e3 => ?_
          obtain ⟨us, b1, _⟩ := (W1.sl i o s e1 e2).at_ e3
          rw [hp] at b1; cases b1
        exact W2.wiped
      · rintro i m H ⟨rfl, Z2, env3, us, acc, g2, z2, hH, da, W2, wz, e2⟩
        obtain ⟨io1, io2⟩ := io Z2 H g2.zz W2.zh i
        by_cases hi : i < ds.length
        · rw [List.drop_eq_getElem_cons hi] at e2
          obtain ⟨jg, jy⟩ := io1 ds[i] (by simp [hi])
          refine .inr ⟨jg, fun H' => LcI K F pa p (wipe σ vs) vs Z1 (fun acc e => compL2 g c it1 g1 c1 f vs vs1 (ds.drop (i + 1)) acc e = some (res, env2)) H', fun H' q => ⟨ds.length - (i + 1), by omega, rfl, q⟩, fun x H2 y => ?_⟩
          obtain ⟨Z3, al, dp⟩ := jy x H2 y
          unfold compL2 at e2
          split at e2
          · rename_i env4 h4
            have W3 := W2.alc al
            have sf : Same F (upd F p (.lst us)) := upd_none fp
            refine ⟨_, pa, Z3, env3, _, env4, W3, dp, h4, fun σ5 Z5 H5 g5 W5 l5 k5 => ⟨wipe_same hsl l5 k5, ?_⟩⟩
            have l5' : (wipe σ vs).length = σ5.length := l5.symm
            have s5 : ∀ i, i ∉ vs → (wipe σ vs)[i]? = σ5[i]? := fun i h => (k5 i fun z => h (hsl i z)).symm
            have gz : ∀ {Z : Hp}, Gr (upd F p (.lst us)) Z5 Z → Z p = none := fun {Z} g => by
              rw [g.nf p (by rw [upd_same]; exact fun z => nomatch z), g5.nf p (by rw [upd_same]; exact fun z => nomatch z)]
              by_cases q : Z3 p = none
              · exact q
              · have : Z3 p = Z2 p := al.nw p (by rw [hH]; exact fun z => nomatch z)
                rw [this]; exact z2
            split at e2
            · rename_i env5 h5
              refine ⟨_, pa, Z5, env4, true, env5, W5, h5, fun Z6 H6 g6 W6 => iteT ?_⟩
              split at e2
              · rename_i ds1 env6 h6
                refine ⟨_, pa, Z6, env5, ds1, env6, W6, h6, fun J1 Z7 H7 g7 W7 io7 => ?_⟩
                cases h8 : compL g1 c1 f vs1 ds1 acc (wipeE env6 vs1) with
                | none => rw [h8] at e2; cases e2
                | some q =>
                  obtain ⟨acc2, env8⟩ := q
                  rw [h8] at e2
                  have g37 : Gr (upd F p (.lst us)) Z5 Z7 := g6.trans g7
                  have g17 : Gr F Z1 Z7 := g2.trans (((al.gr W2.fh).trans (g5.trans g37)).frame sf)
                  have zz : Same Z2 Z7 := al.zz.trans (g5.zz.trans g37.zz)
                  refine lcIn_of hsl1 fp io7 (res := acc2) (env2 := env8) (fun H8 q8 => ?_) ⟨Z7, wipeE env6 vs1, us, acc, .refl .., gz g37, W7.fh p _ upd_same, DpAll.mono zz _ _ da, W7.wiped, wipeE_idem _ _ _ fun _ h => h, h8⟩
                  obtain ⟨Z9, env9, us9, acc9, g9, z9, hH9, da9, W9, wz9, rfl, rfl⟩ := q8
                  refine ⟨Z9, wipeE env9 vs, us9, acc9, g17.trans g9, z9, hH9, da9, ?_, wipeE_idem _ _ _ fun _ h => h, e2⟩
                  refine W9.wipeTo (by rw [wipe_length σ5]; exact l5') fun i h => ?_
                  rw [s5 i h, wipe_out' (fun z => h (hvv i z))]
              · cases e2
            · rename_i env5 h5
              refine ⟨_, pa, Z5, env4, false, env5, W5, h5, fun Z6 H6 g6 W6 => iteF ?_⟩
              have zz : Same Z2 Z6 := al.zz.trans (g5.zz.trans g6.zz)
              exact ⟨Z6, wipeE env5 vs, us, acc, g2.trans (((al.gr W2.fh).trans (g5.trans g6)).frame sf), gz g6, W6.fh p _ upd_same, DpAll.mono zz _ _ da, W6.wipeTo l5' s5, wipeE_idem _ _ _ fun _ h => h, e2⟩
            · cases e2
          · cases e2
        · rw [List.drop_eq_nil_of_le (by omega)] at e2
          cases e2
          have sf : Same F (upd F p (.lst us)) := upd_none fp
          have W3 := (W2.frame sf).wipeTo (σ' := σ) (vs := vs) (wipe_length σ vs).symm fun i h => (wipe_out' h).symm
          rw [wz] at W3
          refine .inl ⟨io2 (by omega), k _ Z2 H (g1'.trans g2) W3 ⟨p, us, rfl, hH, z2, fp, da, fun i o s q1 q2 q3 => ?_⟩⟩
          by_cases hj : i ∈ vs
          · rw [← wz] at q2
            rw [wipeE_in hj q2] at q3
            obtain ⟨_, ⟨_, z⟩ | ⟨_, z⟩⟩ := ownA_iff.mp q3 <;> cases z
          · obtain ⟨_, _, z, _⟩ := (W2.sl i o s (by rw [wipe_out' hj]; exact q1) q2).at_ q3
            rw [upd_same] at z; cases z
  · cases e
section
variable {X : Cx}
theorem s_comp2 {elt tg iter tg1 iter1 : Expr} {ifs ifs1 : List Expr} {scope : Scope} {own : List (Str × Nat)} {vs1 : List Nat} {pos : Pos} {it it1 : Fx (List D)} {sl sl1 : List Nat} {g g1 : Gf} {c c1 : Fx Bool} {f : Fx D} (hc : X.calm = true) (hN : X.N.Nodup) (hi : PI X tg iter (tI X.K it)) (ok : BlkOk X.N X.env.scope scope own)
    (hsl : ∀ i ∈ sl, i ∈ own.map (·.2)) (hsl1 : ∀ i ∈ sl1, i ∈ vs1) (hv : ∀ i ∈ vs1, i ∈ own.map (·.2))
    (hg : ∀ (s : Shared) (H : Hp) (C : Addr) (cl : List (Str × Addr)) (fp : List Addr), PG (X.blk s H scope (compEnvC scope cl C X.env) fp) tg (tG X.K sl g))
    (ht : ∀ (s : Shared) (H : Hp) (C : Addr) (cl : List (Str × Addr)) (fp : List Addr), PTs (X.blk s H scope (compEnvC scope cl C X.env) fp) ifs (tT X.K c))
    (hi1 : ∀ (s : Shared) (H : Hp) (C : Addr) (cl : List (Str × Addr)) (fp : List Addr), PI (X.blk s H scope (compEnvC scope cl C X.env) fp) tg1 iter1 (tI X.K it1))
    (hg1 : ∀ (s : Shared) (H : Hp) (C : Addr) (cl : List (Str × Addr)) (fp : List Addr), PG (X.blk s H scope (compEnvC scope cl C X.env) fp) tg1 (tG X.K sl1 g1))
    (ht1 : ∀ (s : Shared) (H : Hp) (C : Addr) (cl : List (Str × Addr)) (fp : List Addr), PTs (X.blk s H scope (compEnvC scope cl C X.env) fp) ifs1 (tT X.K c1))
    (he : ∀ (s : Shared) (H : Hp) (C : Addr) (cl : List (Str × Addr)) (fp : List Addr), PE (X.blk s H scope (compEnvC scope cl C X.env) fp) elt (tE X.K f)) (hs : ∀ x, foldedSetIterable iter X.env x = pure x) (hs1 : ∀ env x, foldedSetIterable iter1 env x = pure x) :
    PE X (.ListComp elt [⟨tg, iter, ifs, 0⟩, ⟨tg1, iter1, ifs1, 0⟩] scope pos) (tR X.K (eComp2 it g c it1 g1 c1 f (own.map (·.2)) vs1)) :=
  PE.imp (pe_lc2 hc hN hi ok hv hg ht hi1 hg1 ht1 he hs hs1) fun σ H Q h => tLc2_of hsl hsl1 hv h
theorem s_setComp2 {i : Nat} {y : Str} {py : Pos} {elt tg iter tg1 iter1 : Expr} {ifs ifs1 : List Expr} {scope : Scope} {own : List (Str × Nat)} {vs1 : List Nat} {pos spos : Pos} {it it1 : Fx (List D)} {sl sl1 : List Nat} {g g1 : Gf} {c c1 : Fx Bool} {f : Fx D} (hc : X.calm = true) (hN : X.N.Nodup) (hy : X.N[i]? = some y) (hyl : X.env.scope.names.lookup y = some .local)
    (hsw : swapsWith (.ListComp elt [⟨tg, iter, ifs, 0⟩, ⟨tg1, iter1, ifs1, 0⟩] scope pos) (some (.Name y py)) spos.line X.env = pure true) (hi : PI X tg iter (tI X.K it)) (ok : BlkOk X.N X.env.scope scope own)
    (hsl : ∀ i ∈ sl, i ∈ own.map (·.2)) (hsl1 : ∀ i ∈ sl1, i ∈ vs1) (hv : ∀ i ∈ vs1, i ∈ own.map (·.2))
    (hg : ∀ (s : Shared) (H : Hp) (C : Addr) (cl : List (Str × Addr)) (fp : List Addr), PG (X.blk s H scope (compEnvC scope cl C X.env) fp) tg (tG X.K sl g))
    (ht : ∀ (s : Shared) (H : Hp) (C : Addr) (cl : List (Str × Addr)) (fp : List Addr), PTs (X.blk s H scope (compEnvC scope cl C X.env) fp) ifs (tT X.K c))
    (hi1 : ∀ (s : Shared) (H : Hp) (C : Addr) (cl : List (Str × Addr)) (fp : List Addr), PI (X.blk s H scope (compEnvC scope cl C X.env) fp) tg1 iter1 (tI X.K it1))
    (hg1 : ∀ (s : Shared) (H : Hp) (C : Addr) (cl : List (Str × Addr)) (fp : List Addr), PG (X.blk s H scope (compEnvC scope cl C X.env) fp) tg1 (tG X.K sl1 g1))
    (ht1 : ∀ (s : Shared) (H : Hp) (C : Addr) (cl : List (Str × Addr)) (fp : List Addr), PTs (X.blk s H scope (compEnvC scope cl C X.env) fp) ifs1 (tT X.K c1))
    (he : ∀ (s : Shared) (H : Hp) (C : Addr) (cl : List (Str × Addr)) (fp : List Addr), PE (X.blk s H scope (compEnvC scope cl C X.env) fp) elt (tE X.K f)) (hs : ∀ x, foldedSetIterable iter X.env x = pure x) (hs1 : ∀ env x, foldedSetIterable iter1 env x = pure x) :
    PS X (.Assign [.Name y py] (.ListComp elt [⟨tg, iter, ifs, 0⟩, ⟨tg1, iter1, ifs1, 0⟩] scope pos) spos) (tS X.K (sSet i (eComp2 it g c it1 g1 c1 f (own.map (·.2)) vs1))) :=
  s_setG (ps_setLc2 hc hN hy hyl hsw hi ok hv hg ht hi1 hg1 ht1 he hs hs1) fun σ H Q h => tLc2_of hsl hsl1 hv h
end
end Ev
namespace Ev
open PySem PySem.Spec PyProof.Rows L2
/-! ## from the text to its evaluation -/
inductive Blt where
  | len | abs | int | min | max | all | any | sum | divmod | tuple | isinstance | list | range | zip | bool | str | dict | enumerate | sorted | repr
  deriving DecidableEq
def Blt.name : Blt → String
  | .len => "len" | .abs => "abs" | .int => "int" | .min => "min" | .max => "max" | .all => "all" | .any => "any" | .sum => "sum" | .divmod => "divmod" | .tuple => "tuple" | .isinstance => "isinstance" | .list => "list" | .range => "range" | .zip => "zip"
  | .bool => "bool" | .str => "str" | .dict => "dict" | .enumerate => "enumerate" | .sorted => "sorted" | .repr => "repr"
def Blt.ty : Blt → Option String
  | .int => some "int" | .bool => some "bool" | .tuple => some "tuple" | .list => some "list" | .str => some "str" | .dict => some "dict"
  | _ => none
/-- a built-in function on plain data -/
def Blt.fn : Blt → Option (List D → Option D)
  | .len => some gLen | .abs => some gAbs | .min => some gMin | .max => some gMax | .all => some gAll | .any => some gAny | .sum => some gSum | .divmod => some gDivmod | .sorted => some gSorted | .repr => some gRepr
  | _ => none
/-- a built-in type called on plain data -/
def Blt.tyFn : Blt → Option (List D → Option D)
  | .int => some gInt | .tuple => some gTuple
  | _ => none
structure Tab where
  fns : List (Str × Nat × List Bool)
  cons : List (Str × D)
  blts : List (Str × Blt)
  mods : List (Str × String)
  kws : List (Str × Nat × List Str × List Nat)
def modFn : String → Option (List D → Option D)
  | "math.gcd" => some gGcd
  | "math.lcm" => some gLcm
  | _ => none
def okNm (x : Str) : Bool := !(x == ("__debug__" : Str)) && !(x == ("__classdict__" : Str)) && !(x == ("__name__" : Str))
structure XOk (T : Tab) (N : List Str) (C : Nat → Fn) (X : Cx) : Prop where
  names : X.N = N
  nd : X.N.Nodup
  nm : ∀ x ∈ X.N, okNm x = true
  calm : X.calm = true
  kind : X.env.scope.kind = .function
  units : X.A.units + 64 < cLine
  xe : X.xe = fun _ _ => False
  fn : ∀ x i fl, T.fns.lookup x = some (i, fl) → okNm x = true ∧ ∃ f fd ps k, X.mg x = some (.ref f) ∧ PySem.W.keepIn X.K (.ref f) = true ∧ Binds X.K fd ps [] ∧ FnOk X.prog X.w X.K X.mg X.base CX0 k f fd ps (spF X.K fl.length (C i)) ∧ Room k X.A
  kw : ∀ x i fl n ks perm, T.fns.lookup x = some (i, fl) → (x, n, ks, perm) ∈ T.kws → perm.length = fl.length ∧ (∀ j ∈ perm, j < n + ks.length) ∧ ∃ f fd ps k, X.mg x = some (.ref f) ∧ PySem.W.keepIn X.K (.ref f) = true ∧
    KBinds X.K fd ps ks (pick n ks.length perm) (pick n ks.length perm) ∧ FnOk X.prog X.w X.K X.mg X.base CX0 k f fd ps (spF X.K fl.length (C i)) ∧ Room k X.A
  con : ∀ x d, T.cons.lookup x = some d → okNm x = true ∧ ∃ u v, X.mg x = some u ∧ RelV v u ∧ ∀ Z, Dp X.K Z v d
  blt : ∀ x b, T.blts.lookup x = some b → x = (b.name : Str) ∧ X.mg x = none
  mod : ∀ x id, T.mods.lookup x = some id → okNm x = true ∧ X.mg x = some (.builtin id)
def stuck {α : Type} : Fx α := fun _ => none
structure Den where
  E : Scope → Expr → Fx D
  R : Scope → Expr → Fx R
  T : Scope → Expr → Fx Bool
  S : Scope → Stmt → Fx Fl
section
variable (T : Tab) (N : List Str) (C : Nat → Fn) (wf : Nat)
def nameIx : List Str → Str → Option Nat
  | [], _ => none
  | y :: ys, x => if y = x then some 0 else (nameIx ys x).map (· + 1)
def slot (sc : Scope) (x : Str) : Option Nat := match nameIx N x with
  | some i => (match sc.names.lookup x with
    | some .local => some i
    | some .cell => some i
    | some .free => some i
    | _ => none)
  | none => none
def isGl (sc : Scope) (x : Str) : Bool := match sc.names.lookup x with
  | some .globalImplicit => true
  | _ => false
def dName (sc : Scope) (x : Str) : Fx D := match slot N sc x with
  | some i => eVar i
  | none => if isGl sc x = true then (match T.cons.lookup x with
    | some v => eC v
    | none => stuck) else stuck
def opOf : Operator → Option (D → D → Option D)
  | .Add => some gAdd | .Sub => some gSub | .Mult => some gMul | .FloorDiv => some gFdiv | .Mod => some gMod | .Pow => some gPow | .LShift => some gShl
  | _ => none
def cmpOf : CmpOp → (D → D → Option D)
  | .Eq => gEq | .NotEq => gNe | .Lt => gLt | .LtE => gLe | .Gt => gGt | .GtE => gGe | .Is => gIs | .IsNot => gIsNot | .In => gIn | .NotIn => gNotIn
def isStar : Expr → Bool
  | .Starred _ _ => true
  | _ => false
def plIx : Expr → Bool
  | .Name _ _ => true | .Constant _ _ _ => true | .BinOp _ _ _ _ => true | .UnaryOp _ _ _ => true | .Call _ _ _ _ => true | .Subscript _ _ _ => true | .IfExp _ _ _ _ => true
  | _ => false
def dD (d : Den) (sc : Scope) : List Expr → Fx (List D)
  | [] => dNil
  | e :: es => if isStar e = true then stuck else dCons (d.E sc e) (dD d sc es)
/-- arguments of an own def: fl tells which parameters are lists that it changes -/
def dA1 (d : Den) (sc : Scope) (e : Expr) (g : Fx (List AR)) : Fx (List AR) := match e with
  | .Name x _ => (match slot N sc x with
    | some i => aSlot i g
    | none => stuck)
  | e => if isStar e = true then stuck else aTmp (d.R sc e) g
def dA (d : Den) (sc : Scope) : List Bool → List Expr → Fx (List AR)
  | fl, [] => (match fl with
    | [] => aNil
    | _ => stuck)
  | fl, e :: es => (match fl with
    | [] => stuck
    | b :: fl => if b = true then dA1 N d sc e (dA d sc fl es) else (if isStar e = true then stuck else aVal (d.E sc e) (dA d sc fl es)))
def dRs (d : Den) (sc : Scope) : List Expr → Fx (List AR)
  | [] => aNil
  | e :: es => if isStar e = true then stuck else aR (d.R sc e) (dRs d sc es)
def dAndT (d : Den) (sc : Scope) : List Expr → Fx Bool
  | [] => stuck
  | [a] => d.T sc a
  | a :: b :: r => eAndT (d.T sc a) (dAndT d sc (b :: r))
def dOrT (d : Den) (sc : Scope) : List Expr → Fx Bool
  | [] => stuck
  | [a] => d.T sc a
  | a :: b :: r => eOrT (d.T sc a) (dOrT d sc (b :: r))
def dAnd (d : Den) (sc : Scope) : List Expr → Fx D
  | [] => stuck
  | [a] => d.E sc a
  | a :: b :: r => eAnd (d.E sc a) (dAnd d sc (b :: r))
def dOr (d : Den) (sc : Scope) : List Expr → Fx D
  | [] => stuck
  | [a] => d.E sc a
  | a :: b :: r => eOr (d.E sc a) (dOr d sc (b :: r))
/-- what a for walks -/
def dRange (d : Den) (sc : Scope) (args : List Expr) : Fx (List D) := match args with
  | [a] => if isStar a = true then stuck else iRange1 (d.E sc a)
  | [a, b] => if isStar a = true ∨ isStar b = true then stuck else iRange2 (d.E sc a) (d.E sc b)
  | [a, b, c] => if isStar a = true ∨ isStar b = true ∨ isStar c = true then stuck else iRange3 (d.E sc a) (d.E sc b) (d.E sc c)
  | _ => stuck
def isTup : Expr → Bool
  | .Tuple _ _ _ => true
  | _ => false
def dZip (d : Den) (sc : Scope) (tg : Expr) (args : List Expr) : Fx (List D) := if isTup tg = true then (match args with
  | [a, b] => if isStar a = true ∨ isStar b = true then stuck else iZip (dD d sc [a, b])
  | _ => stuck) else stuck
def dEnum (d : Den) (sc : Scope) (tg : Expr) (args : List Expr) : Fx (List D) := if isTup tg = true then (match args with
  | [a] => if isStar a = true then stuck else iEnum (d.E sc a)
  | _ => stuck) else stuck
def dI (d : Den) (sc : Scope) (tg : Expr) (e : Expr) : Fx (List D) := match e with
  | .Call (.Name x _) args [] _ => if isGl sc x = true then (match T.blts.lookup x with
    | some .range => dRange d sc args
    | some .zip => dZip d sc tg args
    | some .enumerate => dEnum d sc tg args
    | _ => iSeq (d.E sc e)) else stuck
  | .Set _ _ _ => stuck
  | _ => iSeq (d.E sc e)
/-- targets: a name, or a tuple of names, items and such tuples (two levels) -/
def dG0 (d : Den) (sc : Scope) : Expr → List Nat × Gf
  | .Name x _ => (match slot N sc x with
    | some i => (match sc.names.lookup x with
      | some .free => ([], fun _ _ => none)
      | _ => ([i], gN i))
    | none => ([], fun _ _ => none))
  | .Subscript (.Name x _) ie _ => (match slot N sc x with
    | some i => if plIx ie = true then ([], gIx i (d.E sc ie)) else ([], fun _ _ => none)
    | none => ([], fun _ _ => none))
  | _ => ([], fun _ _ => none)
def dGs (g : Expr → List Nat × Gf) : List Expr → List Nat × (List D → En → Option En)
  | [] => ([], gsNil)
  | e :: es => if isStar e = true then ([], fun _ _ => none) else ((g e).1 ++ (dGs g es).1, gsCons (g e).2 (dGs g es).2)
def dG1 (d : Den) (sc : Scope) : Expr → List Nat × Gf
  | .Tuple es _ _ => ((dGs (dG0 N d sc) es).1, gTup es.length (dGs (dG0 N d sc) es).2)
  | e => dG0 N d sc e
def dG (d : Den) (sc : Scope) : Expr → List Nat × Gf
  | .Tuple es _ _ => ((dGs (dG1 N d sc) es).1, gTup es.length (dGs (dG1 N d sc) es).2)
  | e => dG0 N d sc e
/-- the names that a comprehension's block has of its own -/
def ownOf (scope : Scope) : List (Str × Nat) := scope.names.filterMap fun y => match y.2 with
  | .local => (nameIx N y.1).map fun i => (y.1, i)
  | .cell => (nameIx N y.1).map fun i => (y.1, i)
  | _ => none
def subB (a b : List Nat) : Bool := a.all fun i => b.contains i
def dIfs (d : Den) (sc : Scope) : List Expr → Fx Bool
  | [] => fun env => some (true, env)
  | [c] => d.T sc c
  | _ => stuck
def notSet : Expr → Bool
  | .Set _ _ _ => false
  | _ => true
def dComp (d : Den) (sc : Scope) (elt : Expr) (gens : List Comprehension) (scope : Scope) : Fx R := match gens with
  | [⟨tg, iter, ifs, 0⟩] => if notSet iter = true ∧ blkC N sc scope (ownOf N scope) = true ∧ subB (dG N d (relS scope sc) tg).1 ((ownOf N scope).map (·.2)) = true then
      eComp (dI T d sc tg iter) (dG N d (relS scope sc) tg).2 (dIfs d (relS scope sc) ifs) (d.E (relS scope sc) elt) ((ownOf N scope).map (·.2)) else stuck
  | [⟨tg, iter, ifs, 0⟩, ⟨tg1, iter1, ifs1, 0⟩] => if notSet iter = true ∧ blkC N sc scope (ownOf N scope) = true ∧ subB (dG N d (relS scope sc) tg).1 ((ownOf N scope).map (·.2)) = true ∧ notSet iter1 = true ∧ subB (dG N d (relS scope sc) tg1).1 ((ownOf N scope).map (·.2)) = true then
      eComp2 (dI T d sc tg iter) (dG N d (relS scope sc) tg).2 (dIfs d (relS scope sc) ifs) (dI T d (relS scope sc) tg1 iter1) (dG N d (relS scope sc) tg1).2 (dIfs d (relS scope sc) ifs1) (d.E (relS scope sc) elt) ((ownOf N scope).map (·.2)) (dG N d (relS scope sc) tg1).1 else stuck
  | _ => stuck
def kwNames (kws : List Keyword) : List (Option Str) := kws.map fun | ⟨n, _, _⟩ => n
def kwVals (kws : List Keyword) : List Expr := kws.map fun | ⟨_, v, _⟩ => v
def findKw (x : Str) (n : Nat) (ks : List (Option Str)) : Option (List Str × List Nat) := match T.kws.find? fun q => decide (q.1 = x) && (decide (q.2.1 = n) && decide (q.2.2.1.map some = ks)) with
  | some q => some q.2.2
  | none => none
def dCall (d : Den) (sc : Scope) (x : Str) (args : List Expr) (kws : List Keyword) : Option (Fx R) := match T.fns.lookup x with
  | some (i, fl) => (match kws with
    | [] => some (if args.length = fl.length then eCall (C i) (dA N d sc fl args) else stuck)
    | _ => (match findKw T x args.length (kwNames kws) with
      | some (ks, perm) => some (eCallK (C i) args.length ks.length perm (dD d sc args) (dD d sc (kwVals kws)))
      | none => some stuck))
  | none => none
/-- a range as an argument -/
def rgArgs (sc : Scope) : Expr → Option (List Expr)
  | .Call (.Name y _) args [] _ => if isGl sc y = true then (match T.blts.lookup y with
    | some .range => some args
    | _ => none) else none
  | _ => none
def dList (d : Den) (sc : Scope) (a : Expr) : Fx R := match rgArgs T sc a with
  | some [b] => if isStar b = true then stuck else eRgL1 (d.E sc b)
  | some [b, c] => if isStar b = true ∨ isStar c = true then stuck else eRgL2 (d.E sc b) (d.E sc c)
  | some _ => stuck
  | none => eList (d.E sc a)
/-- a list of two or more, written out -/
def isLst2 : Expr → Bool
  | .List (_ :: _ :: _) _ => true
  | _ => false
/-- the law's table tells whether a list added is a new list -/
def freshL : Bool := (T.blts.lookup ("dict" : Str)).isSome
def stepR (d : Den) (sc : Scope) (e : Expr) : Fx R := match e with
  | .BinOp a .Add b _ => if (freshL T && isLst2 b) = true then eAddR (d.E sc a) (d.E sc b) else rV (d.E sc e)
  | .List es _ => eLst (dD d sc es)
  | .ListComp elt gens scope _ => dComp T N d sc elt gens scope
  | .Call (.Name x _) args kws _ => if isGl sc x = true then (match dCall T N C d sc x args kws with
    | some f => f
    | none => (match T.blts.lookup x, args, kws with
      | some .list, [a], [] => if isStar a = true then stuck else dList T d sc a
      | _, _, _ => rV (d.E sc e))) else stuck
  | .Subscript a (.Slice lo hi none _) _ => eSlice (d.E sc a) (ePart (lo.map (d.E sc))) (ePart (hi.map (d.E sc)))
  | .IfExp c a b _ => eIf (d.T sc c) (d.R sc a) (d.R sc b)
  | .Name x _ => (match slot N sc x with
    | some i => eMove i
    | none => rV (d.E sc e))
  | _ => rV (d.E sc e)
def stepE (d : Den) (sc : Scope) (e : Expr) : Fx D := match e with
  | .Name x _ => dName T N sc x
  | .Constant c _ _ => (match c with
    | .none => eC .none
    | .bool b => eC (.bool b)
    | .int i => eC (.int i)
    | .str s => eC (.str s)
    | _ => stuck)
  | .BinOp a op b _ => (match opOf op with
    | some g => eOp g (d.E sc a) (d.E sc b)
    | none => stuck)
  | .UnaryOp .Not a _ => eNot (d.E sc a)
  | .UnaryOp .USub a _ => eNeg (d.E sc a)
  | .BoolOp .And es _ => dAnd d sc es
  | .BoolOp .Or es _ => dOr d sc es
  | .Compare a [op] [b] _ => if behindInMarks op b = false then eOp (cmpOf op) (d.E sc a) (d.E sc b) else stuck
  | .Compare a [op, op'] [b, c] _ => if behindInMarks op' c = false then eChain (cmpOf op) (cmpOf op') (d.E sc a) (d.E sc b) (d.E sc c) else stuck
  | .IfExp c a b _ => eIf (d.T sc c) (d.E sc a) (d.E sc b)
  | .Tuple es _ _ => eTup (dD d sc es)
  | .List _ _ => eFz (d.R sc e)
  | .ListComp _ _ _ _ => eFz (d.R sc e)
  | .Subscript a s _ => (match s with
    | .Slice _ _ none _ => eFz (d.R sc e)
    | _ => if plIx s = true then (match a with
      | .Name x _ => (match slot N sc x with
        | some i => eItemN i (d.E sc s)
        | none => eOp gItem (d.E sc a) (d.E sc s))
      | _ => eOp gItem (d.E sc a) (d.E sc s)) else stuck)
  | .Call (.Name x _) args kws _ => if isGl sc x = true then (match T.fns.lookup x with
    | some _ => eFz (d.R sc e)
    | none => (match kws with
      | [] => (match T.blts.lookup x with
        | some .len => (match args with
          | [.Name y p] => (match slot N sc y with
            | some i => eLenN i
            | none => eBlt gLen (dD d sc args))
          | _ :: _ => eBlt gLen (dD d sc args)
          | [] => stuck)
        | some .isinstance => (match args with
          | [a, .Name y _] => if isStar a = true then stuck else (if isGl sc y = true then (match (T.blts.lookup y).bind Blt.ty with
            | some ty => eIsi ty (d.E sc a)
            | none => stuck) else stuck)
          | _ => stuck)
        | some .list => eFz (d.R sc e)
        | some b => (match args with
          | [] => stuck
          | _ :: _ => (match b.fn with
            | some g => eBlt g (dD d sc args)
            | none => (match b.tyFn with
              | some g => eBlt g (dD d sc args)
              | none => stuck)))
        | none => (match (T.mods.lookup x).bind modFn, args with
          | some g, _ :: _ => eBlt g (dD d sc args)
          | _, _ => stuck))
      | _ => stuck)) else stuck
  | _ => stuck
def stepT (d : Den) (sc : Scope) (e : Expr) : Fx Bool := match e with
  | .UnaryOp .Not a _ => eNotT (d.T sc a)
  | .BoolOp .And es _ => dAndT d sc es
  | .BoolOp .Or es _ => dOrT d sc es
  | .Compare a [op] [b] _ => if behindInMarks op b = false then eB (eOp (cmpOf op) (d.E sc a) (d.E sc b)) else stuck
  | .Compare a [op, op'] [b, c] _ => if behindInMarks op' c = false then eB (eChain (cmpOf op) (cmpOf op') (d.E sc a) (d.E sc b) (d.E sc c)) else stuck
  | .Name _ _ => eTru (d.E sc e)
  | .Call _ _ _ _ => eTru (d.E sc e)
  | .Subscript _ _ _ => eTru (d.E sc e)
  | .Constant _ _ _ => eTru (d.E sc e)
  | _ => stuck
def dSs (d : Den) (sc : Scope) : List Stmt → Fx Fl
  | [] => sSkip
  | [s] => d.S sc s
  | s :: t :: r => sSeq (d.S sc s) (dSs d sc (t :: r))
def locIx (sc : Scope) (x : Str) : Option Nat := match sc.names.lookup x with
  | some .local => nameIx N x
  | _ => none
def tupSafe : Expr → Expr → Bool
  | .Tuple _ _ _, .Tuple _ _ _ => false
  | .Tuple _ _ _, _ => true
  | .Subscript _ _ _, _ => true
  | _, _ => false
def noLc : Expr → Bool
  | .ListComp _ _ _ _ => false
  | .SetComp _ _ _ _ => false
  | .DictComp _ _ _ _ _ => false
  | _ => true
def stepS (d : Den) (sc : Scope) (st : Stmt) : Fx Fl := match st with
  | .Pass _ => sSkip
  | .Break _ => sBreak
  | .Continue _ => sCont
  | .Return none _ => sRetN
  | .Return (some e) _ => sRet (d.R sc e)
  | .If c a b _ => sIf (d.T sc c) (dSs d sc a) (dSs d sc b)
  | .While c b [] _ => sWhile (d.T sc c) (dSs d sc b) wf
  | .For tg it b [] _ => if notSet it = true then sFor (dI T d sc tg it) (dG N d sc tg).2 (dSs d sc b) else sStuck
  | .Expr (.Constant (.str _) _ _) _ => sSkip
  | .Expr (.Call (.Attribute (.Name x _) m ap) [a] [] cp) _ => if m = ("append" : Str) ∧ (ap.endLine == cp.line) = true ∧ isStar a = false then (match slot N sc x with
    | some i => sApp i (d.E sc a)
    | none => sStuck) else sStuck
  | .Expr e _ => if noLc e = true then sExpr (d.R sc e) else sStuck
  | .Assign [.Name x px] e sp => (match nameIx N x with
    | some i => (match sc.names.lookup x with
      | some k => if k = .local ∨ k = .cell then (match e with
        | .ListComp elt gens scope lp => if k = .local ∧ (px.line == lp.line) = true ∧ (scope.names.any fun (n, k) => n == x && (k == .local || k == .cell)) = false then sSet i (dComp T N d sc elt gens scope) else sStuck
        | _ => if noLc e = true then sSet i (d.R sc e) else sStuck) else sStuck
      | none => sStuck)
    | none => sStuck)
  | .Assign [.Tuple [.Name x px, .Name y py] kt pt] (.Tuple [a, b] k2 p2) sp => (match locIx N sc x, locIx N sc y with
    | some i, some j => if i ≠ j ∧ swGood sc [.Name x px, .Name y py] [a, b] = true ∧ swNames sc [.Name x px, .Name y py] px.line = [x, y] then sPar [i, j] (dRs d sc [a, b]) else if swNone sc [.Name x px, .Name y py] [a, b] = true then sAsg (d.E sc (.Tuple [a, b] k2 p2)) (dG N d sc (.Tuple [.Name x px, .Name y py] kt pt)).2 else sStuck
    | _, _ => if swNone sc [.Name x px, .Name y py] [a, b] = true then sAsg (d.E sc (.Tuple [a, b] k2 p2)) (dG N d sc (.Tuple [.Name x px, .Name y py] kt pt)).2 else sStuck)
  | .Assign [.Tuple [.Name x px, .Name y py, .Name z pz] kt pt] (.Tuple [a, b, c] k2 p2) sp => (match locIx N sc x, locIx N sc y, locIx N sc z with
    | some i, some j, some l => if i ≠ j ∧ i ≠ l ∧ j ≠ l ∧ swGood sc [.Name x px, .Name y py, .Name z pz] [a, b, c] = true ∧ swNames sc [.Name x px, .Name y py, .Name z pz] px.line = [x, y, z] then sPar [i, j, l] (dRs d sc [a, b, c]) else if swNone sc [.Name x px, .Name y py, .Name z pz] [a, b, c] = true then sAsg (d.E sc (.Tuple [a, b, c] k2 p2)) (dG N d sc (.Tuple [.Name x px, .Name y py, .Name z pz] kt pt)).2 else sStuck
    | _, _, _ => if swNone sc [.Name x px, .Name y py, .Name z pz] [a, b, c] = true then sAsg (d.E sc (.Tuple [a, b, c] k2 p2)) (dG N d sc (.Tuple [.Name x px, .Name y py, .Name z pz] kt pt)).2 else sStuck)
  | .Assign [tg] e _ => if tupSafe tg e = true ∧ noLc e = true then sAsg (d.E sc e) (dG N d sc tg).2 else
      (match tg, e with
      | .Tuple ts _ _, .Tuple vs _ _ => if swNone sc ts vs = true then sAsg (d.E sc e) (dG N d sc tg).2 else sStuck
      | _, _ => sStuck)
  | _ => sStuck
def den : Nat → Den
  | 0 => ⟨fun _ _ => stuck, fun _ _ => stuck, fun _ _ => stuck, fun _ _ => stuck⟩
  | n + 1 => ⟨stepE T N (den n), stepR T N C (den n), stepT (den n), stepS T N wf (den n)⟩
end
end Ev
namespace Ev
open PySem PySem.Spec PyProof.Rows L2
theorem e_stuck {X : Cx} {e : Expr} : PE X e (tE X.K stuck) := ⟨fun _ _ _ _ _ _ ⟨_, _, _, _, _, _, _, e, _⟩ => nomatch e⟩
theorem r_stuck {X : Cx} {e : Expr} : PE X e (tR X.K stuck) := ⟨fun _ _ _ _ _ _ ⟨_, _, _, _, _, _, _, e, _⟩ => nomatch e⟩
theorem t_stuck {X : Cx} {e : Expr} : PT X e (tT X.K stuck) := ⟨fun _ _ _ _ _ _ ⟨_, _, _, _, _, _, _, e, _⟩ => nomatch e⟩
theorem w_stuck {X : Cx} {e : Expr} : PW X e (tT X.K stuck) := ⟨fun _ _ _ _ _ _ _ ⟨_, _, _, _, _, _, _, e, _⟩ => nomatch e⟩
theorem a_stuck {X : Cx} {e : List Expr} : PA X e (tAa X.K stuck) := ⟨fun _ _ _ _ _ _ _ ⟨_, _, _, _, _, _, _, e, _⟩ => nomatch e⟩
theorem d_stuck {X : Cx} {e : List Expr} : PA X e (tAd X.K stuck) := ⟨fun _ _ _ _ _ _ _ ⟨_, _, _, _, _, _, _, e, _⟩ => nomatch e⟩
theorem i_stuck {X : Cx} {tg e : Expr} : PI X tg e (tI X.K stuck) := ⟨fun _ _ _ _ _ _ ⟨_, _, _, _, _, _, _, e, _⟩ => nomatch e⟩
theorem g_stuck {X : Cx} {e : Expr} {sl : List Nat} : PG X e (tG X.K sl fun _ _ => none) := ⟨fun _ _ _ _ _ _ _ _ _ ⟨_, _, _, _, _, _, _, _, e, _⟩ => nomatch e⟩
theorem gs_stuck {X : Cx} {e : List Expr} {sl : List Nat} : PGs X e (tGs X.K sl fun _ _ => none) := ⟨fun _ _ _ _ _ _ _ _ _ ⟨_, _, _, _, _, _, _, _, e, _⟩ => nomatch e⟩
theorem nameIx_get : ∀ {N : List Str} {x : Str} {i : Nat}, nameIx N x = some i → N[i]? = some x
  | [], _, _, h => by cases h
  | y :: ys, x, i, h => by
    unfold nameIx at h
    by_cases q : y = x
    · rw [if_pos q] at h; cases h; rw [q]; rfl
    · rw [if_neg q] at h
      cases e : nameIx ys x with
      | none => rw [e] at h; cases h
      | some j =>
        rw [e] at h; cases h
        rw [List.getElem?_cons_succ]
        exact nameIx_get e
theorem okNm_deb {x : Str} (h : okNm x = true) : (x == ("__debug__" : Str)) = false ∧ (x == ("__classdict__" : Str)) = false ∧ x ≠ "__name__" := by
  unfold okNm at h
  simp only [Bool.and_eq_true, Bool.not_eq_true'] at h
  exact ⟨h.1.1, h.1.2, by
    have := h.2
    intro z
    rw [z] at this
    simp at this⟩
section
variable {T : Tab} {N : List Str} {C : Nat → Fn} {wf : Nat} {X : Cx}
theorem slot_ok (ok : XOk T N C X) {x : Str} {i : Nat} (h : slot N X.env.scope x = some i) : X.N[i]? = some x ∧ Vis X.env.scope x := by
  unfold slot at h
  split at h
  · rename_i j hj
    have hn := nameIx_get hj
    rw [← ok.names] at hn
    split at h <;> first | (cases h; done) | (rename_i hk; cases h; exact ⟨hn, by first | exact .inl hk | exact .inr (.inl hk) | exact .inr (.inr hk)⟩)
  · cases h
theorem slot_pv (ok : XOk T N C X) {x : Str} {i : Nat} {pos : Pos} (h : slot N X.env.scope x = some i) : PE X (.Name x pos) (tVar i) := by
  obtain ⟨h1, h2⟩ := slot_ok ok h
  obtain ⟨d1, d2, _⟩ := okNm_deb (ok.nm x (List.mem_of_getElem? h1))
  exact pe_var h1 h2 d1 d2
theorem isGl_ok {x : Str} (h : isGl X.env.scope x = true) : Gl X x := by
  unfold isGl at h
  split at h
  · assumption
  · cases h
theorem dName_ok (ok : XOk T N C X) {x : Str} {pos : Pos} : PE X (.Name x pos) (tE X.K (dName T N X.env.scope x)) := by
  unfold dName
  split
  · rename_i i hi
    exact s_var (slot_pv ok hi)
  · split
    · rename_i hg
      split
      · rename_i v hv
        obtain ⟨hn, u, w, h1, h2, h3⟩ := ok.con x v hv
        exact s_const (pe_glob (isGl_ok hg) h1 h2 (okNm_deb hn).1) h3
      · exact e_stuck
    · exact e_stuck
theorem star_of {e : Expr} (h : isStar e = false) (es : List Expr) (env : Env) : starEach (e :: es) env = (false, eval e env) :: starEach es env := by
  cases e <;> first | rfl | (cases h)
theorem plIx_ok {b : Expr} (h : plIx b = true) : PlainIx b := by
  cases b <;> first | (cases h; done) | exact fun _ _ => rfl
theorem op_ok (ok : XOk T N C X) {op : Operator} {g : D → D → Option D} (h : opOf op = some g) : Op2 X (binaryOp op) g := by
  cases op <;> first | (cases h; done) | (cases h; first | exact o_add | exact o_sub | exact o_mul | exact o_fdiv | exact o_mod | exact o_pow | exact o_shl)
theorem cmp_ok (ok : XOk T N C X) (op : CmpOp) : Op2 X (compareOp op) (cmpOf op) := by
  cases op <;> first | exact o_eq ok.units | exact o_ne ok.units | exact o_lt | exact o_le | exact o_gt | exact o_ge | exact o_is | exact o_isnot | exact o_in ok.units | exact o_notin ok.units
structure Good (T : Tab) (N : List Str) (C : Nat → Fn) (d : Den) : Prop where
  gE : ∀ X, XOk T N C X → ∀ e, PE X e (tE X.K (d.E X.env.scope e))
  gR : ∀ X, XOk T N C X → ∀ e, PE X e (tR X.K (d.R X.env.scope e))
  gT : ∀ X, XOk T N C X → ∀ e, PT X e (tT X.K (d.T X.env.scope e))
  gS : ∀ X, XOk T N C X → (∀ x, X.fn x = true) → ∀ st, PS X st (tS X.K (d.S X.env.scope st))
variable {d : Den}
theorem bf {b : Bool} (h : ¬ b = true) : b = false := Bool.eq_false_iff.mpr h
theorem dD_ok (G : Good T N C d) (ok : XOk T N C X) : ∀ es : List Expr, PA X es (tAd X.K (dD d X.env.scope es))
  | [] => s_dNil
  | e :: es => by
    unfold dD
    split
    · exact d_stuck
    · rename_i h
      exact s_dCons (G.gE X ok e) (dD_ok G ok es) (star_of (bf h) es _)
theorem dRs_ok (G : Good T N C d) (ok : XOk T N C X) : ∀ es : List Expr, PA X es (tAa X.K (dRs d X.env.scope es))
  | [] => s_aNil
  | e :: es => by
    unfold dRs
    split
    · exact a_stuck
    · rename_i h
      exact s_aR (G.gR X ok e) (dRs_ok G ok es) (star_of (bf h) es _)
theorem dA1_ok (G : Good T N C d) (ok : XOk T N C X) {e : Expr} {es : List Expr} {g : Fx (List AR)} (h : PA X es (tAa X.K g)) : PA X (e :: es) (tAa X.K (dA1 N d X.env.scope e g)) := by
  unfold dA1
  split
  · split
    · rename_i i hi
      exact s_aSlot (slot_pv ok hi) h rfl
    · exact a_stuck
  · split
    · exact a_stuck
    · rename_i hs
      exact s_aTmp (G.gR X ok _) h (star_of (bf hs) _ _)
theorem dA_ok (G : Good T N C d) (ok : XOk T N C X) : ∀ (fl : List Bool) (es : List Expr), PA X es (tAa X.K (dA N d X.env.scope fl es))
  | fl, [] => by
    unfold dA
    split
    · exact s_aNil
    · exact a_stuck
  | fl, e :: es => by
    unfold dA
    split
    · exact a_stuck
    · rename_i b fl
      split
      · exact dA1_ok G ok (dA_ok G ok fl es)
      · split
        · exact a_stuck
        · rename_i h
          exact s_aVal (G.gE X ok e) (dA_ok G ok fl es) (star_of (bf h) es _)
theorem dA1_cases (d : Den) (sc : Scope) (e : Expr) (g : Fx (List AR)) : dA1 N d sc e g = stuck ∨ (∃ i, dA1 N d sc e g = aSlot i g) ∨ ∃ f, dA1 N d sc e g = aTmp f g := by
  cases e with
  | Name x p =>
    show (match slot N sc x with | some i => aSlot i g | none => stuck) = stuck ∨ (∃ i, (match slot N sc x with | some i => aSlot i g | none => stuck) = aSlot i g) ∨ ∃ f, (match slot N sc x with | some i => aSlot i g | none => stuck) = aTmp f g
    cases slot N sc x with
    | none => exact .inl rfl
    | some i => exact .inr (.inl ⟨i, rfl⟩)
  | Starred a p => exact .inl rfl
  | _ => exact .inr (.inr ⟨_, rfl⟩)
theorem dA_len : ∀ (d : Den) (sc : Scope) (fl : List Bool) (es : List Expr) (env env' : En) (as : List AR), dA N d sc fl es env = some (as, env') → as.length = es.length := by
  intro d sc fl es
  induction es generalizing fl with
  | nil =>
    intro env env' as h
    cases fl with
    | nil => cases h; rfl
    | cons b fl => cases h
  | cons e es ih =>
    intro env env' as h
    cases fl with
    | nil => cases h
    | cons b fl =>
      have v1 : ∀ (f : Fx D), aVal f (dA N d sc fl es) env = some (as, env') → as.length = (e :: es).length := fun f h => by
        unfold aVal at h
        cases e1 : f env with
        | none => rw [e1] at h; cases h
        | some p =>
          rw [e1, Option.bind_some] at h
          cases e2 : dA N d sc fl es p.2 with
          | none => rw [e2] at h; cases h
          | some q => rw [e2] at h; cases h; exact congrArg Nat.succ (ih fl _ _ _ e2)
      have v2 : ∀ i, aSlot i (dA N d sc fl es) env = some (as, env') → as.length = (e :: es).length := fun i h => by
        unfold aSlot at h
        split at h
        · split at h
          · cases e2 : dA N d sc fl es env with
            | none => rw [e2] at h; cases h
            | some q => rw [e2] at h; cases h; exact congrArg Nat.succ (ih fl _ _ _ e2)
          · cases h
        · cases h
      have v3 : ∀ (f : Fx R), aTmp f (dA N d sc fl es) env = some (as, env') → as.length = (e :: es).length := fun f h => by
        unfold aTmp at h
        split at h
        · rename_i ds e1 _
          cases e2 : dA N d sc fl es e1 with
          | none => rw [e2] at h; cases h
          | some q => rw [e2] at h; cases h; exact congrArg Nat.succ (ih fl _ _ _ e2)
        · cases h
      unfold dA at h
      dsimp only at h
      split at h
      · rcases dA1_cases (N := N) d sc e (dA N d sc fl es) with z | ⟨i, z⟩ | ⟨f, z⟩
        · rw [z] at h; cases h
        · rw [z] at h; exact v2 _ h
        · rw [z] at h; exact v3 _ h
      · split at h
        · cases h
        · exact v1 _ h
theorem dD_len : ∀ (d : Den) (sc : Scope) (es : List Expr) (env env' : En) (as : List D), dD d sc es env = some (as, env') → as.length = es.length := by
  intro d sc es
  induction es with
  | nil => intro env env' as h; cases h; rfl
  | cons e es ih =>
    intro env env' as h
    unfold dD at h
    split at h
    · cases h
    · unfold dCons at h
      cases e1 : d.E sc e env with
      | none => rw [e1] at h; cases h
      | some p =>
        rw [e1, Option.bind_some] at h
        cases e2 : dD d sc es p.2 with
        | none => rw [e2] at h; cases h
        | some q => rw [e2] at h; cases h; exact congrArg Nat.succ (ih _ _ _ e2)
theorem dAndT_ok (G : Good T N C d) (ok : XOk T N C X) {pos : Pos} : ∀ es : List Expr, PW X (.BoolOp .And es pos) (tT X.K (dAndT d X.env.scope es))
  | [] => w_stuck
  | [a] => s_and1 (G.gT X ok a)
  | a :: b :: r => s_andT (G.gT X ok a) (dAndT_ok G ok (b :: r))
theorem dOrT_ok (G : Good T N C d) (ok : XOk T N C X) {pos : Pos} : ∀ es : List Expr, PW X (.BoolOp .Or es pos) (tT X.K (dOrT d X.env.scope es))
  | [] => w_stuck
  | [a] => s_or1 (G.gT X ok a)
  | a :: b :: r => s_orT (G.gT X ok a) (dOrT_ok G ok (b :: r))
theorem dAnd_ok (G : Good T N C d) (ok : XOk T N C X) {pos : Pos} : ∀ es : List Expr, PE X (.BoolOp .And es pos) (tE X.K (dAnd d X.env.scope es))
  | [] => e_stuck
  | [a] => pe_one (G.gE X ok a)
  | a :: b :: r => s_and (G.gE X ok a) (dAnd_ok G ok (b :: r))
theorem dOr_ok (G : Good T N C d) (ok : XOk T N C X) {pos : Pos} : ∀ es : List Expr, PE X (.BoolOp .Or es pos) (tE X.K (dOr d X.env.scope es))
  | [] => e_stuck
  | [a] => pe_one (G.gE X ok a)
  | a :: b :: r => s_or (G.gE X ok a) (dOr_ok G ok (b :: r))
theorem blt_ok (ok : XOk T N C X) {x : Str} {b : Blt} (h : T.blts.lookup x = some b) : x = (b.name : Str) ∧ X.mg x = none := ok.blt x b h
theorem dRange_ok (G : Good T N C d) (ok : XOk T N C X) {tg : Expr} {args : List Expr} {p pos : Pos} (hg : Gl X "range") (hm : X.mg "range" = none) : PI X tg (.Call (.Name "range" p) args [] pos) (tI X.K (dRange d X.env.scope args)) := by
  match args with
  | [] => exact i_stuck
  | [a] =>
    show PI X tg _ (tI X.K (if isStar a = true then stuck else iRange1 (d.E X.env.scope a)))
    split
    · exact i_stuck
    · rename_i hs
      exact s_range1 (G.gE X ok _) hg hm (star_of (bf hs) [] _)
  | [a, b] =>
    show PI X tg _ (tI X.K (if isStar a = true ∨ isStar b = true then stuck else iRange2 (d.E X.env.scope a) (d.E X.env.scope b)))
    split
    · exact i_stuck
    · rename_i hs
      rw [not_or] at hs
      exact s_range2 (G.gE X ok _) (G.gE X ok _) hg hm (by rw [star_of (bf hs.1), star_of (bf hs.2)]; rfl) (star_of (bf hs.2) [] _)
  | [a, b, c] =>
    show PI X tg _ (tI X.K (if isStar a = true ∨ isStar b = true ∨ isStar c = true then stuck else iRange3 (d.E X.env.scope a) (d.E X.env.scope b) (d.E X.env.scope c)))
    split
    · exact i_stuck
    · rename_i hs
      rw [not_or, not_or] at hs
      exact s_range3 (G.gE X ok _) (G.gE X ok _) (G.gE X ok _) hg hm (star_of (bf hs.1) _ _) (star_of (bf hs.2.1) _ _) (star_of (bf hs.2.2) _ _)
  | _ :: _ :: _ :: _ :: _ => exact i_stuck
theorem dEnum_ok (G : Good T N C d) (ok : XOk T N C X) {tg : Expr} {args : List Expr} {p pos : Pos} (hg : Gl X "enumerate") (hm : X.mg "enumerate" = none) : PI X tg (.Call (.Name "enumerate" p) args [] pos) (tI X.K (dEnum d X.env.scope tg args)) := by
  unfold dEnum
  split
  · rename_i ht
    cases tg <;> (try (cases ht; done))
    match args with
    | [] => exact i_stuck
    | [a] =>
      show PI X _ _ (tI X.K (if isStar a = true then stuck else iEnum (d.E X.env.scope a)))
      split
      · exact i_stuck
      · rename_i hs
        exact s_enum (G.gE X ok _) hg hm (star_of (bf hs) [] _)
    | _ :: _ :: _ => exact i_stuck
  · exact i_stuck
theorem dZip_ok (G : Good T N C d) (ok : XOk T N C X) {tg : Expr} {args : List Expr} {p pos : Pos} (hg : Gl X "zip") (hm : X.mg "zip" = none) : PI X tg (.Call (.Name "zip" p) args [] pos) (tI X.K (dZip d X.env.scope tg args)) := by
  unfold dZip
  split
  · rename_i ht
    cases tg <;> (try (cases ht; done))
    match args with
    | [] => exact i_stuck
    | [_] => exact i_stuck
    | [a, b] =>
      show PI X _ _ (tI X.K (if isStar a = true ∨ isStar b = true then stuck else iZip (dD d X.env.scope [a, b])))
      split
      · exact i_stuck
      · rename_i hs
        rw [not_or] at hs
        exact s_zip (dD_ok G ok [_, _]) hg hm (star_of (bf hs.1) [_] _) (by rw [star_of (bf hs.2)]; rfl)
    | _ :: _ :: _ :: _ => exact i_stuck
  · exact i_stuck
theorem dI_ok (G : Good T N C d) (ok : XOk T N C X) (tg e : Expr) : PI X tg e (tI X.K (dI T d X.env.scope tg e)) := by
  unfold dI
  split
  · rename_i x p args pos
    split
    · rename_i hg
      split
      · rename_i hb
        obtain ⟨hx, hm⟩ := blt_ok ok hb
        subst hx
        exact dRange_ok G ok (isGl_ok hg) hm
      · rename_i hb
        obtain ⟨hx, hm⟩ := blt_ok ok hb
        subst hx
        exact dZip_ok G ok (isGl_ok hg) hm
      · rename_i hb
        obtain ⟨hx, hm⟩ := blt_ok ok hb
        subst hx
        exact dEnum_ok G ok (isGl_ok hg) hm
      · exact s_iSeq (G.gE X ok _)
    · exact i_stuck
  · exact i_stuck
  · exact s_iSeq (G.gE X ok _)
/-- the names of the slots S may be stored -/
def Sto (N : List Str) (X : Cx) (S : List Nat) : Prop := ∀ x i, nameIx N x = some i → i ∈ S → Loc X.env.scope x → X.fn x = true ∨ X.env.scope.names.lookup x = some .local
theorem slot_ix {sc : Scope} {x : Str} {i : Nat} (h : slot N sc x = some i) : nameIx N x = some i := by
  unfold slot at h
  split at h
  · rename_i j hj
    split at h <;> first | (cases h; done) | (cases h; exact hj)
  · cases h
theorem dG0_ok (G : Good T N C d) (ok : XOk T N C X) {S : List Nat} (hfn : Sto N X S) (e : Expr) (hS : ∀ i ∈ (dG0 N d X.env.scope e).1, i ∈ S) : PG X e (tG X.K (dG0 N d X.env.scope e).1 (dG0 N d X.env.scope e).2) := by
  unfold dG0 at hS ⊢
  split
  · rename_i x p
    cases hs : slot N X.env.scope x with
    | none => exact g_stuck
    | some i =>
      obtain ⟨h1, h2⟩ := slot_ok ok hs
      simp only [hs] at hS
      dsimp only
      split
      · exact g_stuck
      · rename_i hnf
        have hl : Loc X.env.scope x := by
          rcases h2 with h | h | h
          · exact .inl h
          · exact .inr h
          · exact absurd h hnf
        have hi : i ∈ S := by
          apply hS
          split
          · rename_i z; exact absurd z hnf
          · simp
        exact s_gn (pg_name ok.nd h1 hl (hfn x i (slot_ix hs) hi hl))
  · rename_i x np ie pos
    cases hs : slot N X.env.scope x with
    | none => exact g_stuck
    | some i =>
      dsimp only
      split
      · rename_i hp
        exact s_gIx (slot_pv ok hs) (G.gE X ok _) (fun _ => by cases ie <;> first | rfl | (cases hp))
      · exact g_stuck
  · exact g_stuck
theorem dGs_ok {g : Expr → List Nat × Gf} {S : List Nat} (hg : ∀ e, (∀ i ∈ (g e).1, i ∈ S) → PG X e (tG X.K (g e).1 (g e).2)) : ∀ es : List Expr, (∀ i ∈ (dGs g es).1, i ∈ S) → PGs X es (tGs X.K (dGs g es).1 (dGs g es).2)
  | [], _ => s_gsNil
  | e :: es, hS => by
    unfold dGs at hS ⊢
    split
    · exact gs_stuck
    · rename_i h
      rw [if_neg h] at hS
      exact s_gsCons (hg e fun i hi => hS i (List.mem_append_left _ hi)) (dGs_ok hg es fun i hi => hS i (List.mem_append_right _ hi)) (by cases e <;> first | rfl | exact absurd rfl h)
theorem each_len : ∀ (es : List Expr) (env : Env), (assignEach es env).length = es.length
  | [], _ => rfl
  | e :: es, env => by
    have ih := each_len es env
    cases e <;> exact congrArg Nat.succ ih
theorem each_star {g : Expr → List Nat × Gf} : ∀ (es : List Expr) (env : Env), (es.any isStar) = false → (assignEach es env).findIdx? (·.1) = none
  | [], _, _ => rfl
  | e :: es, env, h => by
    rw [List.any_cons, Bool.or_eq_false_iff] at h
    have ih := each_star (g := g) es env h.2
    have : assignEach (e :: es) env = (false, assign e env) :: assignEach es env := by
      cases e <;> first | rfl | (cases h.1)
    rw [this, List.findIdx?_cons, ih]
    rfl
theorem dGs_star {g : Expr → List Nat × Gf} : ∀ (es : List Expr), (es.any isStar) = true → ∀ ds env, ds.length = es.length → (dGs g es).2 ds env = none
  | [], h, _, _, _ => by cases h
  | e :: es, h, ds, env, hl => by
    unfold dGs
    split
    · rfl
    · rename_i hs
      rw [List.any_cons, bf hs, Bool.false_or] at h
      cases ds with
      | nil => cases hl
      | cons d ds =>
        show ((g e).2 d env).bind ((dGs g es).2 ds) = none
        cases (g e).2 d env with
        | none => rfl
        | some e1 => exact dGs_star es h ds e1 (Nat.succ.inj hl)
theorem gtup_ok {g : Expr → List Nat × Gf} {S : List Nat} (ok : XOk T N C X) (hg : ∀ e, (∀ i ∈ (g e).1, i ∈ S) → PG X e (tG X.K (g e).1 (g e).2)) {es : List Expr} {k : Nat} {pos : Pos} (hS : ∀ i ∈ (dGs g es).1, i ∈ S) : PG X (.Tuple es k pos) (tG X.K (dGs g es).1 (gTup es.length (dGs g es).2)) := by
  cases h : es.any isStar with
  | false => exact s_gTup ok.calm (dGs_ok hg es hS) (each_len es _) (each_star (g := g) es _ h)
  | true =>
    refine ⟨fun pins s σ H v u Q I r ⟨F, pa, Z, env, d, env', W, q, e, k⟩ => ?_⟩
    exfalso
    unfold gTup at e
    split at e
    · split at e
      · rename_i hl
        rw [dGs_star es h _ _ hl] at e; cases e
      · cases e
    · cases e
theorem dG1_ok (G : Good T N C d) (ok : XOk T N C X) {S : List Nat} (hfn : Sto N X S) (e : Expr) (hS : ∀ i ∈ (dG1 N d X.env.scope e).1, i ∈ S) : PG X e (tG X.K (dG1 N d X.env.scope e).1 (dG1 N d X.env.scope e).2) := by
  cases e <;> first | exact gtup_ok ok (dG0_ok G ok hfn) hS | exact dG0_ok G ok hfn _ hS
theorem dG_ok (G : Good T N C d) (ok : XOk T N C X) {S : List Nat} (hfn : Sto N X S) (e : Expr) (hS : ∀ i ∈ (dG N d X.env.scope e).1, i ∈ S) : PG X e (tG X.K (dG N d X.env.scope e).1 (dG N d X.env.scope e).2) := by
  cases e <;> first | exact gtup_ok ok (dG1_ok G ok hfn) hS | exact dG0_ok G ok hfn _ hS
/-- the context of a comprehension's block -/
theorem XOk.blk (ok : XOk T N C X) {s : Shared} {H : Hp} {scope : Scope} {cl : List (Str × Addr)} {Cc : Addr} {fp : List Addr} (hk : scope.kind = .function) : XOk T N C (X.blk s H scope (compEnvC scope cl Cc X.env) fp) :=
  ⟨ok.names, ok.nd, ok.nm, ok.calm, hk, ok.units, rfl, ok.fn, ok.kw, ok.con, ok.blt, ok.mod⟩
theorem subB_ok {a b : List Nat} (h : subB a b = true) : ∀ i ∈ a, i ∈ b := fun i hi => by
  have := List.all_eq_true.mp h i hi
  simpa using this
theorem blk_sto (ok : XOk T N C X) {s : Shared} {H : Hp} {scope : Scope} {cl : List (Str × Addr)} {Cc : Addr} {fp : List Addr} (hu : ∀ y ∈ scope.names, scope.names.lookup y.1 = some y.2) : Sto N (X.blk s H scope (compEnvC scope cl Cc X.env) fp) ((ownOf N scope).map (·.2)) := by
  intro x i hx hi _
  obtain ⟨q, hq, e⟩ := List.mem_map.mp hi
  unfold ownOf at hq
  obtain ⟨y, hy, ey⟩ := List.mem_filterMap.mp hq
  have key : (nameIx N y.1).map (fun i => (y.1, i)) = some q → y.1 = x := fun h => by
    cases e1 : nameIx N y.1 with
    | none => rw [e1] at h; cases h
    | some j =>
      rw [e1] at h; cases h
      have a1 := nameIx_get e1
      have a2 := nameIx_get hx
      have e' : j = i := e
      subst e'
      rw [a1] at a2
      exact Option.some.inj a2
  have lk := hu y hy
  split at ey
  · rename_i hk
    have := key ey
    subst this
    rw [hk] at lk
    right
    exact lookup_relS_keep (sc := X.env.scope) (by decide) lk
  · rename_i hk
    have := key ey
    subst this
    rw [hk] at lk
    left
    show (scope.names.lookup y.1 == some .cell) = true
    rw [lk]; rfl
  · cases ey
theorem dIfs_ok (G : Good T N C d) (ok : XOk T N C X) : ∀ ifs : List Expr, PTs X ifs (tT X.K (dIfs d X.env.scope ifs))
  | [] => by
    refine ⟨fun pins s σ H Q I ⟨F, pa, Z, env, b, env', W, e, k⟩ => ?_⟩
    cases e
    exact pts_nil.run pins s σ H Q I (k Z H (.refl ..) W)
  | [c] => pts_one (G.gT X ok c)
  | _ :: _ :: _ => ⟨fun _ _ _ _ _ _ ⟨_, _, _, _, _, _, _, e, _⟩ => nomatch e⟩
theorem folded_ok {e : Expr} (h : notSet e = true) (env : Env) : ∀ x, foldedSetIterable e env x = pure x := by
  cases e <;> first | exact fun _ => rfl | (cases h)
theorem dComp_ok (G : Good T N C d) (ok : XOk T N C X) (elt : Expr) (gens : List Comprehension) (scope : Scope) (pos : Pos) : PE X (.ListComp elt gens scope pos) (tR X.K (dComp T N d X.env.scope elt gens scope)) := by
  unfold dComp
  split
  · rename_i tg iter ifs
    split
    · rename_i h
      obtain ⟨h1, h2, h3⟩ := h
      rw [← ok.names] at h2
      have bo := blkOk_by h2
      rw [ok.names] at bo
      have bo' : BlkOk X.N X.env.scope scope (ownOf N scope) := by rw [ok.names]; exact bo
      refine s_comp ok.calm ok.nd (dI_ok G ok tg iter) bo' (subB_ok h3) (fun s H Cc cl fp => ?_) (fun s H Cc cl fp => ?_) (fun s H Cc cl fp => ?_) (folded_ok h1 _)
      · exact dG_ok G (ok.blk (s := s) (H := H) (cl := cl) (Cc := Cc) (fp := fp) bo.kind) (blk_sto ok bo.uniq) tg (subB_ok h3)
      · exact dIfs_ok G (ok.blk (s := s) (H := H) (cl := cl) (Cc := Cc) (fp := fp) bo.kind) ifs
      · exact G.gE _ (ok.blk (s := s) (H := H) (cl := cl) (Cc := Cc) (fp := fp) bo.kind) elt
    · exact r_stuck
  · rename_i tg iter ifs tg1 iter1 ifs1
    split
    · rename_i h
      obtain ⟨h1, h2, h3, h4, h5⟩ := h
      rw [← ok.names] at h2
      have bo := blkOk_by h2
      rw [ok.names] at bo
      have bo' : BlkOk X.N X.env.scope scope (ownOf N scope) := by rw [ok.names]; exact bo
      refine s_comp2 ok.calm ok.nd (dI_ok G ok tg iter) bo' (subB_ok h3) (fun _ h => h) (subB_ok h5) (fun s H Cc cl fp => ?_) (fun s H Cc cl fp => ?_) (fun s H Cc cl fp => ?_) (fun s H Cc cl fp => ?_) (fun s H Cc cl fp => ?_) (fun s H Cc cl fp => ?_) (folded_ok h1 _) (folded_ok h4)
      · exact dG_ok G (ok.blk (s := s) (H := H) (cl := cl) (Cc := Cc) (fp := fp) bo.kind) (blk_sto ok bo.uniq) tg (subB_ok h3)
      · exact dIfs_ok G (ok.blk (s := s) (H := H) (cl := cl) (Cc := Cc) (fp := fp) bo.kind) ifs
      · exact dI_ok G (ok.blk (s := s) (H := H) (cl := cl) (Cc := Cc) (fp := fp) bo.kind) tg1 iter1
      · exact dG_ok G (ok.blk (s := s) (H := H) (cl := cl) (Cc := Cc) (fp := fp) bo.kind) (blk_sto ok bo.uniq) tg1 (subB_ok h5)
      · exact dIfs_ok G (ok.blk (s := s) (H := H) (cl := cl) (Cc := Cc) (fp := fp) bo.kind) ifs1
      · exact G.gE _ (ok.blk (s := s) (H := H) (cl := cl) (Cc := Cc) (fp := fp) bo.kind) elt
    · exact r_stuck
  · exact r_stuck
end
end Ev
namespace Ev
open PySem PySem.Spec PyProof.Rows L2
/-! ## the steps are right -/
theorem PK.imp {X : Cx} {kws : List Keyword} {t t' : TA} (h : PK X kws t) (m : ∀ σ H Q, t' σ H Q → t σ H Q) : PK X kws t' := ⟨fun pos pins s σ H Q I q => h.run pos pins s σ H Q I (m σ H Q q)⟩
section
variable {T : Tab} {N : List Str} {C : Nat → Fn} {wf : Nat} {X : Cx} {d : Den}
/-- f(k = e, ..), keywords alone -/
theorem call_kw0 {CX : CXT} {k : Nat} {f : Addr} {fd : FuncData} {ps ks : List Str} {sp : Sp} {E : XK} {x : Str} {p pos : Pos} {kws : List Keyword} {tk : TA} {g : List Value → List Value → List Value} {gV : List V → List V → List V}
    (F : FnOk X.prog X.w X.K X.mg X.base CX k f fd ps sp) (hr : Room k X.A) (hg : Gl X x) (hm : X.mg x = some (.ref f)) (hk : PySem.W.keepIn X.K (.ref f) = true) (hb : KBinds X.K fd ps ks g gV) (hx : Passes CX X E)
    (hkw : PK X kws tk) (hall : (backToKw pos (keywordEach kws X.env)).all (·.1.isSome) = true) (hks : (backToKw pos (keywordEach kws X.env)).filterMap (·.1) = ks)
    (hdb : (x == ("__debug__" : Str)) = false) (hpl : ((backTo pos (starEach [] X.env)).any (·.1) || (backToKw pos (keywordEach kws X.env)).any (·.1.isNone)) = false) :
    PE X (.Call (.Name x p) [] kws pos) (tCallK sp gV E tNil tk) := by
  constructor
  intro pins s σ H Q I h
  refine wpAny_Call_Name_kw (ld_glob I hg hm (PySem.W.callWith_KW0 (h₀ := X.base) I.ok.mod.kin hk hall ?_ hpl) hdb)
  refine wpAny_mono (hkw.run pos pins s σ H _ I h) ?_ fun _ _ z => z
  rintro ws s2 ⟨zs, H2, I2, rz, q2⟩
  refine ⟨I2.kIn, ?_⟩
  rw [hks]
  exact run_fnk F hr hb hx I2 .nil rz q2
theorem kw_all {kws : List Keyword} {ks : List Str} {pos : Pos} {env : Env} (h : kwNames kws = ks.map some) : (backToKw pos (keywordEach kws env)).all (·.1.isSome) = true ∧ (backToKw pos (keywordEach kws env)).filterMap (·.1) = ks ∧ (backToKw pos (keywordEach kws env)).any (·.1.isNone) = false := by
  induction kws generalizing ks with
  | nil =>
    cases ks with
    | nil => exact ⟨rfl, rfl, rfl⟩
    | cons => cases h
  | cons kw kws ih =>
    obtain ⟨n, v, kp⟩ := kw
    cases ks with
    | nil => cases h
    | cons k ks =>
      have h1 : n = some k := (List.cons.inj h).1
      have h2 : kwNames kws = ks.map some := (List.cons.inj h).2
      subst h1
      obtain ⟨a, b, c⟩ := ih h2
      refine ⟨?_, ?_, ?_⟩
      · show (true && (backToKw pos (keywordEach kws env)).all (·.1.isSome)) = true
        rw [a]; rfl
      · show k :: (backToKw pos (keywordEach kws env)).filterMap (·.1) = k :: ks
        rw [b]
      · show (false || (backToKw pos (keywordEach kws env)).any (·.1.isNone)) = false
        rw [c]; rfl
theorem dK_ok (G : Good T N C d) (ok : XOk T N C X) : ∀ kws : List Keyword, PK X kws (tAd X.K (dD d X.env.scope (kwVals kws)))
  | [] => by
    refine PK.imp pk_nil fun σ H Q ⟨F, pa, Z, env, ds, env', W, h, k⟩ => ?_
    cases h
    exact k [] Z H (.refl ..) W .nil
  | ⟨n, v, kp⟩ :: kws => by
    show PK X _ (tAd X.K (if isStar v = true then stuck else dCons (d.E X.env.scope v) (dD d X.env.scope (kwVals kws))))
    split
    · exact ⟨fun _ _ _ _ _ _ _ ⟨_, _, _, _, _, _, _, e, _⟩ => nomatch e⟩
    · refine PK.imp (pk_cons (G.gE X ok v) (dK_ok G ok kws)) fun σ H Q ⟨F, pa, Z, env, ds, env', W, h, k⟩ => ?_
      unfold dCons at h
      cases e1 : d.E X.env.scope v env with
      | none => rw [e1] at h; cases h
      | some p =>
        rw [e1, Option.bind_some] at h
        cases e2 : dD d X.env.scope (kwVals kws) p.2 with
        | none => rw [e2] at h; cases h
        | some q =>
          rw [e2] at h
          cases h
          exact ⟨F, pa, Z, env, p.1, p.2, W, e1, fun v Z1 H1 g1 W1 q1 => ⟨F, pa, Z1, p.2, q.1, q.2, W1, e2, fun vs Z2 H2 g2 W2 q2 => k (v :: vs) Z2 H2 (g1.trans g2) W2 (.cons (Dp.mono g2.zz _ _ q1) q2)⟩⟩
theorem no_star {d : Den} {sc : Scope} {pos : Pos} {env : Env} : ∀ {es : List Expr} {ev : En} {r : List D × En}, dD d sc es ev = some r → (backTo pos (starEach es env)).any (·.1) = false
  | [], _, _, _ => rfl
  | e :: es, ev, r, h => by
    unfold dD at h
    split at h
    · cases h
    · rename_i hs
      rw [star_of (bf hs)]
      unfold dCons at h
      cases e1 : d.E sc e ev with
      | none => rw [e1] at h; cases h
      | some p =>
        rw [e1, Option.bind_some] at h
        cases e2 : dD d sc es p.2 with
        | none => rw [e2] at h; cases h
        | some q =>
          show (false || (backTo pos (starEach es env)).any (·.1)) = false
          rw [no_star e2]; rfl
/-- a reading that holds only where the evaluation goes on -/
theorem PE.when {e : Expr} {f : Fx R} {P : Prop} (h : P → PE X e (tR X.K f)) (w : ∀ env r, f env = some r → P) : PE X e (tR X.K f) :=
  ⟨fun pins s σ H Q I q => by
    obtain ⟨F, pa, Z, env, r, env', W, e, k⟩ := id q
    exact (h (w _ _ e)).run pins s σ H Q I q⟩
theorem PE.whenE {e : Expr} {f : Fx D} {P : Prop} (h : P → PE X e (tE X.K f)) (w : ∀ env r, f env = some r → P) : PE X e (tE X.K f) :=
  ⟨fun pins s σ H Q I q => by
    obtain ⟨F, pa, Z, env, r, env', W, e, k⟩ := id q
    exact (h (w _ _ e)).run pins s σ H Q I q⟩
theorem stars_of : ∀ {es : List Expr} {env : Env} {pos : Pos}, (backTo pos (starEach es env)).any (·.1) = false → ∀ e r, es = e :: r → starEach (e :: r) env = (false, eval e env) :: starEach r env ∧ (backTo pos (starEach r env)).any (·.1) = false := by
    intro es env pos h e r he
    subst he
    cases hs : isStar e with
    | true =>
      cases e <;> (try (cases hs; done))
      have : ((true : Bool) || (backTo pos (starEach r env)).any (·.1)) = false := h
      cases this
    | false =>
      rw [star_of hs] at h
      have h' : ((false : Bool) || (backTo pos (starEach r env)).any (·.1)) = false := h
      exact ⟨star_of hs r env, by simpa using h'⟩
theorem findKw_ok {x : Str} {n : Nat} {kn : List (Option Str)} {ks : List Str} {perm : List Nat} (h : findKw T x n kn = some (ks, perm)) : (x, n, ks, perm) ∈ T.kws ∧ kn = ks.map some := by
  unfold findKw at h
  split at h
  · rename_i q hq
    have h1 := List.find?_some hq
    have h2 := List.mem_of_find?_eq_some hq
    simp only [Bool.and_eq_true, decide_eq_true_eq] at h1
    obtain ⟨a, b, c⟩ := h1
    obtain ⟨q1, q2, q3, q4⟩ := q
    cases h
    cases a; cases b
    exact ⟨h2, c.symm⟩
  · cases h
theorem dCall_ok (G : Good T N C d) (ok : XOk T N C X) {x : Str} {p pos : Pos} {args : List Expr} {kws : List Keyword} {f : Fx R} (hg : Gl X x) (h : dCall T N C d X.env.scope x args kws = some f) : PE X (.Call (.Name x p) args kws pos) (tR X.K f) := by
  unfold dCall at h
  split at h
  · rename_i i fl hf
    obtain ⟨hn, ff, fd, ps, k, h1, h2, h3, h4, h5⟩ := ok.fn x i fl hf
    have hdb := (okNm_deb hn).1
    cases kws with
    | nil =>
      dsimp only at h
      cases h
      split
      · rename_i hl
        cases args with
        | nil =>
          refine PE.imp (pe_call0 h4 h5 hg h1 h2 h3 .nil pass0 (hdb := hdb)) fun σ H Q q => ?_
          have q2 := tCall_of (E := E0) (np := fl.length) (fun env as env' e => by rw [dA_len d _ _ _ _ _ _ e]; exact hl) q
          obtain ⟨F, pa, Z, env, as, env', W, e, kk⟩ := q2
          cases fl with
          | nil => cases e; exact kk [] Z H (.refl ..) W .nil
          | cons => cases hl
        | cons e es =>
          -- no star stands ahead
          refine PE.when (P := (backTo pos (starEach (e :: es) X.env)).any (·.1) = false) (fun hst => ?_) ?_
          · obtain ⟨s1, s2⟩ := stars_of hst e es rfl
            refine PE.imp (pe_call h4 h5 hg h1 h2 h3 .nil pass0 (dA_ok G ok fl (e :: es)) (hdb := hdb) (he := s1) (hpl := s2)) fun σ H Q q => ?_
            exact tCall_of (fun env as env' e => by rw [dA_len d _ _ _ _ _ _ e]; exact hl) q
          · intro env r hr
            unfold eCall at hr
            split at hr
            · rename_i as env1 ea
              have ns : ∀ (fl : List Bool) (es : List Expr) (env : En) (r : List AR × En), dA N d X.env.scope fl es env = some r → (backTo pos (starEach es X.env)).any (·.1) = false := by
                intro fl es
                induction es generalizing fl with
                | nil => intro _ _ _; rfl
                | cons e es ih =>
                  intro env r h
                  cases fl with
                  | nil => cases h
                  | cons b fl =>
                    cases hs : isStar e with
                    | true =>
                      exfalso
                      cases e <;> (try (cases hs; done))
                      cases b <;> cases h
                    | false =>
                      rw [star_of hs]
                      show (false || (backTo pos (starEach es X.env)).any (·.1)) = false
                      rw [Bool.false_or]
                      unfold dA at h
                      dsimp only at h
                      split at h
                      · rcases dA1_cases (N := N) d X.env.scope e (dA N d X.env.scope fl es) with z | ⟨i, z⟩ | ⟨f, z⟩
                        · rw [z] at h; cases h
                        · rw [z] at h
                          unfold aSlot at h
                          split at h
                          · split at h
                            · cases e2 : dA N d X.env.scope fl es env with
                              | none => rw [e2] at h; cases h
                              | some q => exact ih fl _ _ e2
                            · cases h
                          · cases h
                        · rw [z] at h
                          unfold aTmp at h
                          split at h
                          · rename_i ds e1 _
                            cases e2 : dA N d X.env.scope fl es e1 with
                            | none => rw [e2] at h; cases h
                            | some q => exact ih fl _ _ e2
                          · cases h
                      · rw [if_neg (by rw [hs]; exact Bool.false_ne_true)] at h
                        unfold aVal at h
                        cases e1 : d.E X.env.scope e env with
                        | none => rw [e1] at h; cases h
                        | some p =>
                          rw [e1, Option.bind_some] at h
                          cases e2 : dA N d X.env.scope fl es p.2 with
                          | none => rw [e2] at h; cases h
                          | some q => exact ih fl _ _ e2
              exact ns _ _ _ _ ea
            · cases hr
      · exact r_stuck
    | cons kw kws =>
      dsimp only at h
      split at h
      · rename_i ks perm hk
        cases h
        obtain ⟨km, kn⟩ := findKw_ok hk
        obtain ⟨pl, pv, ff, fd, ps, k, h1, h2, h3, h4, h5⟩ := ok.kw x i fl _ ks perm hf km
        obtain ⟨a1, a2, a3⟩ := kw_all (pos := pos) (env := X.env) kn
        have kl : (kwVals (kw :: kws)).length = ks.length := by
          have := congrArg List.length kn
          simpa [kwNames, kwVals] using this
        have rd : ∀ {σ : L2.St} {H : Hp} {Q : VK}, tR X.K (eCallK (C i) args.length ks.length perm (dD d X.env.scope args) (dD d X.env.scope (kwVals (kw :: kws)))) σ H Q →
            tCallK (spF X.K fl.length (C i)) (pick args.length ks.length perm) E0 (tAd X.K (dD d X.env.scope args)) (tAd X.K (dD d X.env.scope (kwVals (kw :: kws)))) σ H Q := fun q =>
          tCallK_of pl pv q (fun env ds env' e => dD_len d _ _ _ _ _ e) fun env ds env' e => by rw [dD_len d _ _ _ _ _ e]; exact kl
        cases args with
        | nil =>
          refine PE.imp (call_kw0 h4 h5 hg h1 h2 h3 pass0 (dK_ok G ok (kw :: kws)) a1 a2 hdb (by rw [a3]; rfl)) fun σ H Q q => ?_
          obtain ⟨F, pa, Z, env, as, env', W, e, kk⟩ := rd q
          cases e
          exact kk [] Z H (.refl ..) W .nil
        | cons e es =>
          refine PE.when (P := (backTo pos (starEach (e :: es) X.env)).any (·.1) = false) (fun hst => ?_) ?_
          · obtain ⟨s1, s2⟩ := stars_of hst e es rfl
            exact PE.imp (pe_callK h4 h5 hg h1 h2 h3 pass0 (dD_ok G ok (e :: es)) (dK_ok G ok (kw :: kws)) a1 a2 hdb s1 (by rw [hst, a3]; rfl)) fun σ H Q q => rd q
          · intro env r hr
            unfold eCallK at hr
            cases e1 : dD d X.env.scope (e :: es) env with
            | none => rw [e1] at hr; cases hr
            | some p => exact no_star e1
      · cases h; exact r_stuck
  · cases h
theorem blt_name (b : Blt) : (b.name : Str) ≠ "__name__" ∧ ((b.name : Str) == ("__debug__" : Str)) = false := by
  cases b <;> exact ⟨by decide +kernel, by decide +kernel⟩
theorem blt_boot {b : Blt} {g : List D → Option D} (h : b.fn = some g) : bootBuiltins (b.name : Str) = some (.builtin b.name) := by
  cases b <;> first | (cases h; done) | decide +kernel
theorem blt_call (hc : X.calm = true) {b : Blt} {g : List D → Option D} (h : b.fn = some g) : CallD X (.builtin b.name) g := by
  cases b <;> first | (cases h; done) | (cases h; first | exact c_len | exact c_abs | exact c_min hc | exact c_max hc | exact c_all hc | exact c_any hc | exact c_sum hc | exact c_divmod | exact c_sorted | exact c_repr)
theorem blt_bootT {b : Blt} {g : List D → Option D} (h : b.tyFn = some g) : bootBuiltins (b.name : Str) = some (.type b.name) := by
  cases b <;> first | (cases h; done) | decide +kernel
theorem blt_callT {b : Blt} {g : List D → Option D} (h : b.tyFn = some g) : CallD X (.type b.name) g := by
  cases b <;> first | (cases h; done) | (cases h; first | exact c_int | exact c_tuple)
theorem blt_bootTy {b : Blt} {t : String} (h : b.ty = some t) : bootBuiltins (b.name : Str) = some (.type t) := by
  cases b <;> first | (cases h; done) | (cases h; decide +kernel)
theorem mod_call {id : String} {g : List D → Option D} (h : modFn id = some g) : CallD X (.builtin id) g := by
  unfold modFn at h
  split at h
  · cases h; exact c_gcd
  · cases h; exact c_lcm
  · cases h
/-- a built-in function called -/
theorem callB_ok (G : Good T N C d) (ok : XOk T N C X) {x : Str} {id : String} {g : List D → Option D} {p pos : Pos} {e : Expr} {es : List Expr} (hc : CallD X (.builtin id) g) (hg : Gl X x) (hm : X.mg x = none) (hv : bootBuiltins x = some (.builtin id)) (hn : x ≠ "__name__") (hdb : (x == ("__debug__" : Str)) = false) :
    PE X (.Call (.Name x p) (e :: es) [] pos) (tE X.K (eBlt g (dD d X.env.scope (e :: es)))) := by
  refine PE.whenE (P := (backTo pos (starEach (e :: es) X.env)).any (·.1) = false) (fun hst => ?_) ?_
  · obtain ⟨s1, s2⟩ := stars_of hst e es rfl
    exact s_callB hc hg hm hv (dD_ok G ok (e :: es)) hn hdb s1 s2
  · intro env r hr
    unfold eBlt at hr
    cases e1 : dD d X.env.scope (e :: es) env with
    | none => rw [e1] at hr; cases hr
    | some p => exact no_star e1
theorem callT_ok (G : Good T N C d) (ok : XOk T N C X) {x : Str} {id : String} {g : List D → Option D} {p pos : Pos} {e : Expr} {es : List Expr} (hc : CallD X (.type id) g) (hg : Gl X x) (hm : X.mg x = none) (hv : bootBuiltins x = some (.type id)) (hn : x ≠ "__name__") (hdb : (x == ("__debug__" : Str)) = false) :
    PE X (.Call (.Name x p) (e :: es) [] pos) (tE X.K (eBlt g (dD d X.env.scope (e :: es)))) := by
  refine PE.whenE (P := (backTo pos (starEach (e :: es) X.env)).any (·.1) = false) (fun hst => ?_) ?_
  · obtain ⟨s1, s2⟩ := stars_of hst e es rfl
    exact s_callT hc hg hm hv (dD_ok G ok (e :: es)) hn hdb s1 s2
  · intro env r hr
    unfold eBlt at hr
    cases e1 : dD d X.env.scope (e :: es) env with
    | none => rw [e1] at hr; cases hr
    | some p => exact no_star e1
theorem callM_ok (G : Good T N C d) (ok : XOk T N C X) {x : Str} {id : String} {g : List D → Option D} {p pos : Pos} {e : Expr} {es : List Expr} (hc : CallD X (.builtin id) g) (hg : Gl X x) (hm : X.mg x = some (.builtin id)) (hdb : (x == ("__debug__" : Str)) = false) :
    PE X (.Call (.Name x p) (e :: es) [] pos) (tE X.K (eBlt g (dD d X.env.scope (e :: es)))) := by
  refine PE.whenE (P := (backTo pos (starEach (e :: es) X.env)).any (·.1) = false) (fun hst => ?_) ?_
  · obtain ⟨s1, s2⟩ := stars_of hst e es rfl
    exact s_callG hc hg hm (dD_ok G ok (e :: es)) hdb s1 s2
  · intro env r hr
    unfold eBlt at hr
    cases e1 : dD d X.env.scope (e :: es) env with
    | none => rw [e1] at hr; cases hr
    | some p => exact no_star e1
theorem part_ok (G : Good T N C d) (ok : XOk T N C X) (o : Option Expr) : PO X o (tPt X.K (ePart (o.map (d.E X.env.scope)))) := by
  cases o with
  | none => exact s_ptN
  | some e => exact s_ptS (G.gE X ok e)
theorem rgArgs_some {e : Expr} {as : List Expr} (h : rgArgs T X.env.scope e = some as) : ∃ y p pos, e = .Call (.Name y p) as [] pos ∧ isGl X.env.scope y = true ∧ T.blts.lookup y = some .range := by
  unfold rgArgs at h
  split at h
  · split at h
    · rename_i hg
      split at h
      · rename_i hb
        cases h
        exact ⟨_, _, _, rfl, hg, hb⟩
      · cases h
    · cases h
  · cases h
theorem dList_ok (G : Good T N C d) (ok : XOk T N C X) {a : Expr} {p pos : Pos} (hg : Gl X "list") (hm : X.mg "list" = none) (hs : ¬ isStar a = true) : PE X (.Call (.Name "list" p) [a] [] pos) (tR X.K (dList T d X.env.scope a)) := by
  unfold dList
  split
  · rename_i b hr
    obtain ⟨y, p2, q, rfl, h1, h2⟩ := rgArgs_some hr
    obtain ⟨hx, hm2⟩ := ok.blt _ _ h2
    subst hx
    split
    · exact r_stuck
    · rename_i hb
      exact s_listRg1 ok.calm (G.gE X ok _) hg hm (isGl_ok h1) hm2 (star_of (bf hb) [] _)
  · rename_i b c hr
    obtain ⟨y, p2, q, rfl, h1, h2⟩ := rgArgs_some hr
    obtain ⟨hx, hm2⟩ := ok.blt _ _ h2
    subst hx
    split
    · exact r_stuck
    · rename_i hb
      rw [not_or] at hb
      exact s_listRg2 ok.calm (G.gE X ok _) (G.gE X ok _) hg hm (isGl_ok h1) hm2 (star_of (bf hb.1) _ _) (star_of (bf hb.2) [] _)
  · exact r_stuck
  · exact s_list (G.gE X ok _) hg hm (star_of (bf hs) [] _)
theorem stepR_ok (G : Good T N C d) (ok : XOk T N C X) (e : Expr) : PE X e (tR X.K (stepR T N C d X.env.scope e)) := by
  have dflt : PE X e (tR X.K (rV (d.E X.env.scope e))) := s_rV (G.gE X ok e)
  cases e <;> (try exact dflt)
  case List es pos => exact s_lst (dD_ok G ok es)
  case ListComp elt gens scope pos => exact dComp_ok G ok elt gens scope pos
  case BinOp a op b pos =>
    cases op <;> (try exact dflt)
    show PE X _ (tR X.K (if (freshL T && isLst2 b) = true then eAddR (d.E X.env.scope a) (d.E X.env.scope b) else rV (d.E X.env.scope (.BinOp a .Add b pos))))
    split
    · exact s_addR (G.gE X ok a) (G.gE X ok b)
    · exact dflt
  case IfExp c a b pos => exact s_ifR (G.gT X ok c) (G.gR X ok a) (G.gR X ok b)
  case Name x pos =>
    show PE X _ (tR X.K (match slot N X.env.scope x with | some i => eMove i | none => rV (d.E X.env.scope (.Name x pos))))
    split
    · rename_i i hi; exact s_move (slot_pv ok hi)
    · exact dflt
  case Subscript a s pos =>
    cases s <;> (try exact dflt)
    rename_i lo hi st p2
    cases st with
    | none => exact s_slice (G.gE X ok a) (part_ok G ok lo) (part_ok G ok hi)
    | some _ => exact dflt
  case Call fn args kws pos =>
    cases fn <;> (try exact dflt)
    rename_i x p
    unfold stepR
    dsimp only
    split
    · rename_i hg
      split
      · rename_i f hf; exact dCall_ok G ok (isGl_ok hg) hf
      · split
        · rename_i hb _
          obtain ⟨hx, hm⟩ := ok.blt _ _ hb
          subst hx
          split
          · exact r_stuck
          · rename_i hs
            exact dList_ok G ok (isGl_ok hg) hm hs
        · exact dflt
    · exact r_stuck
theorem stepT_ok (G : Good T N C d) (ok : XOk T N C X) (e : Expr) : PT X e (tT X.K (stepT d X.env.scope e)) := by
  cases e <;> (try exact t_stuck)
  case UnaryOp op a pos =>
    cases op <;> (try exact t_stuck)
    exact s_notT (G.gT X ok a)
  case BoolOp op es pos =>
    cases op
    · exact (dAndT_ok G ok es).pt
    · exact (dOrT_ok G ok es).pt
  case Compare a ops bs pos =>
    match ops, bs with
    | [op], [b] =>
      show PT X _ (tT X.K (if behindInMarks op b = false then eB (eOp (cmpOf op) (d.E X.env.scope a) (d.E X.env.scope b)) else stuck))
      split
      · rename_i h; exact s_cmpT (cmp_ok ok op) (G.gE X ok a) (G.gE X ok b) h
      · exact t_stuck
    | [op, op'], [b, c] =>
      show PT X _ (tT X.K (if behindInMarks op' c = false then eB (eChain (cmpOf op) (cmpOf op') (d.E X.env.scope a) (d.E X.env.scope b) (d.E X.env.scope c)) else stuck))
      split
      · rename_i h; exact s_chainT (cmp_ok ok op) (cmp_ok ok op') (G.gE X ok a) (G.gE X ok b) (G.gE X ok c) h
      · exact t_stuck
    | [], [] => exact t_stuck
    | [], _ :: _ => exact t_stuck
    | [_], [] => exact t_stuck
    | [_], _ :: _ :: _ => exact t_stuck
    | [_, _], [] => exact t_stuck
    | [_, _], [_] => exact t_stuck
    | [_, _], _ :: _ :: _ :: _ => exact t_stuck
    | _ :: _ :: _ :: _, [] => exact t_stuck
    | _ :: _ :: _ :: _, _ :: _ => exact t_stuck
  case Name x pos => exact s_tru (G.gE X ok _) (fun _ => rfl)
  case Call f a k pos => exact s_tru (G.gE X ok _) (fun _ => rfl)
  case Subscript a b pos => exact s_tru (G.gE X ok _) (fun _ => rfl)
  case Constant c k pos => exact s_tru (G.gE X ok _) (fun _ => rfl)
theorem stepE_ok (G : Good T N C d) (ok : XOk T N C X) (e : Expr) : PE X e (tE X.K (stepE T N d X.env.scope e)) := by
  cases e <;> (try exact e_stuck)
  case Name x pos => exact dName_ok ok
  case Constant c k pos =>
    cases c <;> (try exact e_stuck)
    · exact s_const pe_non fun _ => .non
    · exact s_const pe_bl fun _ => .bl _
    · exact s_const pe_int fun _ => .int _
    · exact s_const pe_str fun _ => .str _
  case BinOp a op b pos =>
    show PE X _ (tE X.K (match opOf op with | some g => eOp g (d.E X.env.scope a) (d.E X.env.scope b) | none => stuck))
    split
    · rename_i g hg; exact s_bin (op_ok ok hg) (G.gE X ok a) (G.gE X ok b)
    · exact e_stuck
  case UnaryOp op a pos =>
    cases op <;> first | exact s_not (G.gE X ok a) | exact s_neg (G.gE X ok a) | exact e_stuck
  case BoolOp op es pos =>
    cases op
    · exact dAnd_ok G ok es
    · exact dOr_ok G ok es
  case Compare a ops bs pos =>
    match ops, bs with
    | [op], [b] =>
      show PE X _ (tE X.K (if behindInMarks op b = false then eOp (cmpOf op) (d.E X.env.scope a) (d.E X.env.scope b) else stuck))
      split
      · rename_i h; exact s_cmp (cmp_ok ok op) (G.gE X ok a) (G.gE X ok b) h
      · exact e_stuck
    | [op, op'], [b, c] =>
      show PE X _ (tE X.K (if behindInMarks op' c = false then eChain (cmpOf op) (cmpOf op') (d.E X.env.scope a) (d.E X.env.scope b) (d.E X.env.scope c) else stuck))
      split
      · rename_i h; exact s_chain (cmp_ok ok op) (cmp_ok ok op') (G.gE X ok a) (G.gE X ok b) (G.gE X ok c) h
      · exact e_stuck
    | [], [] => exact e_stuck
    | [], _ :: _ => exact e_stuck
    | [_], [] => exact e_stuck
    | [_], _ :: _ :: _ => exact e_stuck
    | [_, _], [] => exact e_stuck
    | [_, _], [_] => exact e_stuck
    | [_, _], _ :: _ :: _ :: _ => exact e_stuck
    | _ :: _ :: _ :: _, [] => exact e_stuck
    | _ :: _ :: _ :: _, _ :: _ => exact e_stuck
  case IfExp c a b pos => exact s_ifE (G.gT X ok c) (G.gE X ok a) (G.gE X ok b)
  case Tuple es k pos => exact s_tup (dD_ok G ok es)
  case List es pos => exact s_fz (G.gR X ok _)
  case ListComp elt gens scope pos => exact s_fz (G.gR X ok _)
  case Subscript a s pos =>
    have it : plIx s = true → PE X (.Subscript a s pos) (tE X.K (match a with
      | .Name x _ => (match slot N X.env.scope x with
        | some i => eItemN i (d.E X.env.scope s)
        | none => eOp gItem (d.E X.env.scope a) (d.E X.env.scope s))
      | _ => eOp gItem (d.E X.env.scope a) (d.E X.env.scope s))) := fun h => by
      cases a <;> (try exact s_item (G.gE X ok _) (G.gE X ok s) (plIx_ok h))
      rename_i x p
      show PE X _ (tE X.K (match slot N X.env.scope x with
        | some i => eItemN i (d.E X.env.scope s)
        | none => eOp gItem (d.E X.env.scope (.Name x p)) (d.E X.env.scope s)))
      split
      · rename_i i hi; exact s_itemN (slot_pv ok hi) (G.gE X ok s) (plIx_ok h)
      · exact s_item (G.gE X ok _) (G.gE X ok s) (plIx_ok h)
    cases s <;> first | exact it rfl | exact e_stuck | skip
    rename_i lo hi st p2
    cases st with
    | none => exact s_fz (G.gR X ok _)
    | some _ => exact e_stuck
  case Call fn args kws pos =>
    cases fn <;> (try exact e_stuck)
    rename_i x p
    unfold stepE
    dsimp only
    split
    · rename_i hg
      have hgl := isGl_ok hg
      split
      · exact s_fz (G.gR X ok _)
      · split
        · split
          · rename_i hb
            obtain ⟨hx, hm⟩ := ok.blt _ _ hb
            subst hx
            split
            · rename_i y p2
              split
              · rename_i i hi; exact s_lenN (slot_pv ok hi) hgl hm rfl
              · exact callB_ok G ok c_len hgl hm PySem.boot_len (blt_name .len).1 (blt_name .len).2
            · exact callB_ok G ok c_len hgl hm PySem.boot_len (blt_name .len).1 (blt_name .len).2
            · exact e_stuck
          · rename_i hb
            obtain ⟨hx, hm⟩ := ok.blt _ _ hb
            subst hx
            split
            · rename_i a y p2
              split
              · exact e_stuck
              · rename_i hs
                split
                · rename_i hg2
                  split
                  · rename_i ty hty
                    cases hb2 : T.blts.lookup y with
                    | none => rw [hb2] at hty; cases hty
                    | some b2 =>
                      rw [hb2, Option.bind_some] at hty
                      obtain ⟨hx2, hm2⟩ := ok.blt _ _ hb2
                      subst hx2
                      exact s_isi (G.gE X ok a) hgl hm (isGl_ok hg2) hm2 (blt_bootTy hty) (blt_name b2).1 (blt_name b2).2 (star_of (bf hs) [_] _)
                  · exact e_stuck
                · exact e_stuck
            · exact e_stuck
          · exact s_fz (G.gR X ok _)
          · rename_i b _ _ _ hb
            obtain ⟨hx, hm⟩ := ok.blt _ _ hb
            subst hx
            split
            · exact e_stuck
            · split
              · rename_i g hgb; exact callB_ok G ok (blt_call ok.calm hgb) hgl hm (blt_boot hgb) (blt_name b).1 (blt_name b).2
              · split
                · rename_i g hgb; exact callT_ok G ok (blt_callT hgb) hgl hm (blt_bootT hgb) (blt_name b).1 (blt_name b).2
                · exact e_stuck
          · split
            · rename_i g _ _ hgm
              cases hmd : T.mods.lookup x with
              | none => rw [hmd] at hgm; cases hgm
              | some id =>
                rw [hmd, Option.bind_some] at hgm
                obtain ⟨hn, hm⟩ := ok.mod x id hmd
                exact callM_ok G ok (mod_call hgm) hgl hm (okNm_deb hn).1
            · exact e_stuck
        · exact e_stuck
    · exact e_stuck
end
end Ev
namespace Ev
open PySem PySem.Spec PyProof.Rows L2
section
variable {T : Tab} {N : List Str} {C : Nat → Fn} {wf : Nat} {X : Cx} {d : Den}
theorem ss_stuck {st : Stmt} : PS X st (tS X.K sStuck) := s_stuck
theorem dSs_ok (G : Good T N C d) (ok : XOk T N C X) (hf : ∀ x, X.fn x = true) : ∀ ss : List Stmt, PSs X ss (tS X.K (dSs d X.env.scope ss))
  | [] => s_nil
  | [s] => s_one (G.gS X ok hf s)
  | s :: t :: r => s_cons (G.gS X ok hf s) (dSs_ok G ok hf (t :: r))
theorem passes (ok : XOk T N C X) : PassesOwn (model X.prog X.w) X.A X.env X.xe := by rw [ok.xe]; exact PassesOwn.never
theorem noLc_sw {e : Expr} (h : noLc e = true) (t : Option Expr) (l : Nat) (env : Env) : swapsWith e t l env = pure false := by
  cases e <;> first | rfl | (cases h)
theorem sto_all (hf : ∀ x, X.fn x = true) (S : List Nat) : Sto N X S := fun x _ _ _ _ => .inl (hf x)
theorem asg_ok (G : Good T N C d) (ok : XOk T N C X) (hf : ∀ x, X.fn x = true) {tg e : Expr} {pos : Pos} (hl : noLc e = true) (hw : swappedStores [tg] e X.env = pure none) (hn : isStar tg = false) : PS X (.Assign [tg] e pos) (tS X.K (sAsg (d.E X.env.scope e) (dG N d X.env.scope tg).2)) :=
  s_asg (G.gE X ok e) (dG_ok G ok (sto_all hf (dG N d X.env.scope tg).1) tg fun _ h => h) (noLc_sw hl (some tg) _ _) hw (by cases tg <;> first | rfl | (cases hn))
theorem setComp_ok (G : Good T N C d) (ok : XOk T N C X) {i : Nat} {x : Str} {px sp pos : Pos} {elt : Expr} {gens : List Comprehension} {scope : Scope} (hi : nameIx N x = some i) (hk : X.env.scope.names.lookup x = some .local) (hl : (px.line == pos.line) = true)
    (ha : (scope.names.any fun (n, k) => n == x && (k == .local || k == .cell)) = false) : PS X (.Assign [.Name x px] (.ListComp elt gens scope pos) sp) (tS X.K (sSet i (dComp T N d X.env.scope elt gens scope))) := by
  have hst : PS X (.Assign [.Name x px] (.ListComp elt gens scope pos) sp) (tS X.K (sSet i stuck)) := ⟨fun _ _ _ _ _ _ ⟨_, _, _, _, _, _, _, e, _⟩ => nomatch e⟩
  unfold dComp
  split
  · rename_i tg iter ifs
    split
    · rename_i h
      obtain ⟨h1, h2, h3⟩ := h
      rw [← ok.names] at h2
      have bo := blkOk_by h2
      rw [ok.names] at bo
      have bo' : BlkOk X.N X.env.scope scope (ownOf N scope) := by rw [ok.names]; exact bo
      have hn := nameIx_get hi
      rw [← ok.names] at hn
      refine s_setComp ok.calm ok.nd hn hk (sw_true ok.kind hk hl ha) (dI_ok G ok tg iter) bo' (subB_ok h3) (fun s H Cc cl fp => ?_) (fun s H Cc cl fp => ?_) (fun s H Cc cl fp => ?_) (folded_ok h1 _)
      · exact dG_ok G (ok.blk (s := s) (H := H) (cl := cl) (Cc := Cc) (fp := fp) bo.kind) (blk_sto ok bo.uniq) tg (subB_ok h3)
      · exact dIfs_ok G (ok.blk (s := s) (H := H) (cl := cl) (Cc := Cc) (fp := fp) bo.kind) ifs
      · exact G.gE _ (ok.blk (s := s) (H := H) (cl := cl) (Cc := Cc) (fp := fp) bo.kind) elt
    · exact hst
  · rename_i tg iter ifs tg1 iter1 ifs1
    split
    · rename_i h
      obtain ⟨h1, h2, h3, h4, h5⟩ := h
      rw [← ok.names] at h2
      have bo := blkOk_by h2
      rw [ok.names] at bo
      have bo' : BlkOk X.N X.env.scope scope (ownOf N scope) := by rw [ok.names]; exact bo
      have hn := nameIx_get hi
      rw [← ok.names] at hn
      refine s_setComp2 ok.calm ok.nd hn hk (sw_true ok.kind hk hl ha) (dI_ok G ok tg iter) bo' (subB_ok h3) (fun _ h => h) (subB_ok h5) (fun s H Cc cl fp => ?_) (fun s H Cc cl fp => ?_) (fun s H Cc cl fp => ?_) (fun s H Cc cl fp => ?_) (fun s H Cc cl fp => ?_) (fun s H Cc cl fp => ?_) (folded_ok h1 _) (folded_ok h4)
      · exact dG_ok G (ok.blk (s := s) (H := H) (cl := cl) (Cc := Cc) (fp := fp) bo.kind) (blk_sto ok bo.uniq) tg (subB_ok h3)
      · exact dIfs_ok G (ok.blk (s := s) (H := H) (cl := cl) (Cc := Cc) (fp := fp) bo.kind) ifs
      · exact dI_ok G (ok.blk (s := s) (H := H) (cl := cl) (Cc := Cc) (fp := fp) bo.kind) tg1 iter1
      · exact dG_ok G (ok.blk (s := s) (H := H) (cl := cl) (Cc := Cc) (fp := fp) bo.kind) (blk_sto ok bo.uniq) tg1 (subB_ok h5)
      · exact dIfs_ok G (ok.blk (s := s) (H := H) (cl := cl) (Cc := Cc) (fp := fp) bo.kind) ifs1
      · exact G.gE _ (ok.blk (s := s) (H := H) (cl := cl) (Cc := Cc) (fp := fp) bo.kind) elt
    · exact hst
  · exact hst
theorem locIx_ok (ok : XOk T N C X) {x : Str} {i : Nat} (h : locIx N X.env.scope x = some i) : X.N[i]? = some x ∧ X.env.scope.names.lookup x = some .local := by
  unfold locIx at h
  split at h
  · rename_i hk
    have := nameIx_get h
    rw [← ok.names] at this
    exact ⟨this, hk⟩
  · cases h
theorem stepS_ok (G : Good T N C d) (ok : XOk T N C X) (hf : ∀ x, X.fn x = true) (st : Stmt) : PS X st (tS X.K (stepS T N wf d X.env.scope st)) := by
  unfold stepS
  split
  · exact s_skip ps_pass
  · exact s_break
  · exact s_cont
  · exact s_retN
  · exact s_ret (G.gR X ok _)
  · exact s_if (G.gT X ok _) (dSs_ok G ok hf _) (dSs_ok G ok hf _)
  · exact s_while (passes ok) (G.gT X ok _) (dSs_ok G ok hf _)
  · split
    · rename_i h
      exact s_for (passes ok) ok.calm (dI_ok G ok _ _) (dG_ok G ok (sto_all hf _) _ fun _ h => h) (dSs_ok G ok hf _) (folded_ok h _)
    · exact ss_stuck
  · exact s_skip ps_doc
  · rename_i x np m ap a cp sp
    split
    · rename_i h
      obtain ⟨rfl, h2, h3⟩ := h
      split
      · rename_i i hi
        exact s_app (slot_pv ok hi) (G.gE X ok a) (star_of h3 [] _) h2 rfl
      · exact ss_stuck
    · exact ss_stuck
  · split
    · rename_i h
      exact s_expr (G.gR X ok _) (noLc_sw h none _ _)
    · exact ss_stuck
  · rename_i x px e sp
    split
    · rename_i i hi
      have hn := nameIx_get hi
      rw [← ok.names] at hn
      split
      · rename_i k hk
        split
        · rename_i hkk
          have hl : Loc X.env.scope x := by
            rcases hkk with rfl | rfl
            · exact .inl hk
            · exact .inr hk
          split
          · split
            · rename_i h
              obtain ⟨rfl, h2, h3⟩ := h
              exact setComp_ok G ok hi hk h2 h3
            · exact ss_stuck
          · split
            · rename_i h
              exact s_setG (ps_set ok.nd hn hl (G.gR X ok e) (noLc_sw h _ _ _) (.inl (hf x))) fun σ H Q q => q
            · exact ss_stuck
        · exact ss_stuck
      · exact ss_stuck
    · exact ss_stuck
  · rename_i x px y py kt pt a b k2 p2 sp
    split
    · rename_i i j hi hj
      split
      · rename_i h
        obtain ⟨h1, h2, h3⟩ := h
        exact s_par2 ok.calm ok.kind ok.nd (locIx_ok ok hi).1 (locIx_ok ok hj).1 h1 (locIx_ok ok hi).2 (locIx_ok ok hj).2 (dRs_ok G ok [a, b]) h2 h3
      · split
        · rename_i h
          exact asg_ok G ok hf rfl (swapped_none ok.kind h) rfl
        · exact ss_stuck
    · split
      · rename_i h
        exact asg_ok G ok hf rfl (swapped_none ok.kind h) rfl
      · exact ss_stuck
  · rename_i x px y py z pz kt pt a b c k2 p2 sp
    split
    · rename_i i j l hi hj hl
      split
      · rename_i h
        obtain ⟨h1, h2, h3, h4, h5⟩ := h
        exact s_par3 ok.calm ok.kind ok.nd (locIx_ok ok hi).1 (locIx_ok ok hj).1 (locIx_ok ok hl).1 h1 h2 h3 (locIx_ok ok hi).2 (locIx_ok ok hj).2 (locIx_ok ok hl).2 (dRs_ok G ok [a, b, c]) h4 h5
      · split
        · rename_i h
          exact asg_ok G ok hf rfl (swapped_none ok.kind h) rfl
        · exact ss_stuck
    · split
      · rename_i h
        exact asg_ok G ok hf rfl (swapped_none ok.kind h) rfl
      · exact ss_stuck
  · rename_i tg e sp _ _ _
    split
    · rename_i h
      refine asg_ok G ok hf h.2 (swapped_other ?_) ?_
      · have h1 := h.1
        cases tg <;> cases e <;> first | rfl | (cases h1)
      · have h1 := h.1
        cases tg <;> first | rfl | (cases h1)
    · split
      · split
        · rename_i h
          exact asg_ok G ok hf rfl (swapped_none ok.kind h) rfl
        · exact ss_stuck
      · exact ss_stuck
  · exact ss_stuck
theorem den_good : ∀ n : Nat, Good T N C (den T N C wf n)
  | 0 => ⟨fun _ _ _ => e_stuck, fun _ _ _ => r_stuck, fun _ _ _ => t_stuck, fun _ _ _ _ => ss_stuck⟩
  | n + 1 => ⟨fun _ ok e => stepE_ok (den_good n) ok e, fun _ ok e => stepR_ok (den_good n) ok e, fun _ ok e => stepT_ok (den_good n) ok e, fun _ ok hf st => stepS_ok (den_good n) ok hf st⟩
end
end Ev
namespace Ev
open PySem PySem.Spec PyProof.Rows L2
/-! ## a program's defs -/
structure Fd where
  x : Str
  ps : List Str
  N : List Str
  fl : List Bool
  st : Stmt
def fnsFrom : Nat → List Fd → List (Str × Nat × List Bool)
  | _, [] => []
  | n, r :: rs => (r.x, n, r.fl) :: fnsFrom (n + 1) rs
def runF (rs : List Fd) (T : Tab) (wf fuel : Nat) : Nat → Nat → Fn
  | 0, _ => fun _ => none
  | n + 1, i => match rs[i]? with
    | some r => callFn r.N.length (dSs (den T r.N (runF rs T wf fuel n) wf fuel) (defScope r.st) (defBody r.st))
    | none => fun _ => none
theorem fns_get : ∀ {rs : List Fd} {n : Nat} {x : Str} {i : Nat} {fl : List Bool}, (fnsFrom n rs).lookup x = some (i, fl) → ∃ r j, i = n + j ∧ rs[j]? = some r ∧ r.x = x ∧ r.fl = fl
  | [], _, _, _, _, h => by cases h
  | r :: rs, n, x, i, fl, h => by
    unfold fnsFrom at h
    rw [List.lookup_cons] at h
    cases q : (x == r.x) with
    | true =>
      rw [q] at h
      cases h
      exact ⟨r, 0, rfl, rfl, (beq_iff_eq.mp q).symm, rfl⟩
    | false =>
      rw [q] at h
      obtain ⟨r', j, h1, h2, h3, h4⟩ := fns_get h
      exact ⟨r', j + 1, by omega, h2, h3, h4⟩
def scB (r : Fd) : Bool := decide ((defScope r.st).kind = .function) && (!(defScope r.st).isCoroutine && (!(defScope r.st).isGenerator && (decide r.N.Nodup && (decide (r.N.take r.ps.length = r.ps) &&
  (r.ps.all (fun x => decide ((defScope r.st).names.lookup x = some .local) || decide ((defScope r.st).names.lookup x = some .cell)) && ((defScope r.st).names.all (fun y => !decide (y.2 = .free)) && (decide (r.fl.length = r.ps.length) && r.N.all okNm)))))))
theorem scB_ok {r : Fd} (h : scB r = true) : FnScope r.N r.ps (defScope r.st) ∧ r.fl.length = r.ps.length ∧ ∀ x ∈ r.N, okNm x = true := by
  unfold scB at h
  simp only [Bool.and_eq_true, decide_eq_true_eq, Bool.not_eq_true', List.all_eq_true, Bool.or_eq_true] at h
  obtain ⟨h1, h2, h3, h4, h5, h6, h7, h8, h9⟩ := h
  exact ⟨⟨h1, h2, h3, h4, h5, h6, fun y hy => of_decide_eq_false (h7 y hy)⟩, h8, h9⟩
def BindOk (r : Fd) : Prop := ∀ (kV doc pm : Value) (an : Option Addr) (cdv ct : Value) (us : List Value), us.length = r.ps.length → bindArgs (PySem.W.fnOf r.x r.x (defArgs r.st) (defBody r.st) (defScope r.st) .none kV doc pm an cdv ct) ⟨us, []⟩ = pure (r.ps.zip us)
def KBindOk (r : Fd) (n : Nat) (ks : List Str) (perm : List Nat) : Prop := ∀ (kV doc pm : Value) (an : Option Addr) (cdv ct : Value) (us ws : List Value), us.length = n → ws.length = ks.length →
  bindArgs (PySem.W.fnOf r.x r.x (defArgs r.st) (defBody r.st) (defScope r.st) .none kV doc pm an cdv ct) ⟨us, ks.zip ws⟩ = pure (r.ps.zip (pick n ks.length perm us ws))
def AllR {α : Type} (p : α → Prop) : List α → Prop
  | [] => True
  | r :: rs => p r ∧ AllR p rs
theorem AllR.get {α : Type} {p : α → Prop} : ∀ {rs : List α}, AllR p rs → ∀ r ∈ rs, p r
  | [], _, _, h => by cases h
  | r :: rs, a, s, h => by
    rcases List.mem_cons.mp h with rfl | h
    · exact a.1
    · exact AllR.get a.2 s h
def KwOk (rs : List Fd) (q : Str × Nat × List Str × List Nat) : Prop := ∃ i, ∃ r, rs[i]? = some r ∧ r.x = q.1 ∧ (∀ (j : Nat) (r' : Fd), rs[j]? = some r' → r'.x = q.1 → j = i) ∧ q.2.2.2.length = r.fl.length ∧ (∀ j ∈ q.2.2.2, j < q.2.1 + q.2.2.1.length) ∧ KBindOk r q.2.1 q.2.2.1 q.2.2.2 ∧ r.ps ≠ []
/-! ## what the heap has -/
def relDs (rel : D → Value → Bool) : List D → List Value → Bool
  | [], [] => true
  | d :: ds, u :: us => rel d u && relDs rel ds us
  | _, _ => false
def relDn (K : PySem.W.Frag) : Nat → D → Value → Bool
  | 0, _, _ => false
  | n + 1, d, u => match d, u with
    | .none, .none => true
    | .bool b, .bool c => b == c
    | .int i, .int j _ => decide (i = j)
    | .str x, .str y _ => decide (x = y)
    | .tuple ds, .ref a => (match K.lookup a with
      | some ⟨.type c, _, .seq its _, _⟩ => decide (c = "tuple") && (decide (its.size ≤ sizeLine) && relDs (relDn K n) ds its.toList)
      | _ => false)
    | _, _ => false
theorem relDs_ok {K : PySem.W.Frag} {rel : D → Value → Bool} (hr : ∀ d u, rel d u = true → ∃ v, RelV v u ∧ ∀ Z, Dp K Z v d) : ∀ {ds : List D} {us : List Value}, relDs rel ds us = true → ∃ vs, Vals vs us ∧ ∀ Z, DpAll K Z vs ds
  | [], [], _ => ⟨[], .nil, fun _ => .nil⟩
  | [], _ :: _, h => by cases h
  | _ :: _, [], h => by cases h
  | d :: ds, u :: us, h => by
    obtain ⟨h1, h2⟩ := He.ba (show (rel d u && relDs rel ds us) = true from h)
    obtain ⟨v, r, q⟩ := hr d u h1
    obtain ⟨vs, rs, qs⟩ := relDs_ok hr h2
    exact ⟨v :: vs, .cons r rs, fun Z => .cons (q Z) (qs Z)⟩
theorem relDn_ok {K : PySem.W.Frag} : ∀ (n : Nat) (d : D) (u : Value), relDn K n d u = true → ∃ v, RelV v u ∧ ∀ Z, Dp K Z v d
  | 0, _, _, h => by cases h
  | n + 1, d, u, h => by
    unfold relDn at h
    split at h
    · exact ⟨.non, rfl, fun _ => .non⟩
    · rename_i b c
      have e : b = c := eq_of_beq h
      subst e
      exact ⟨.bl b, rfl, fun _ => .bl b⟩
    · rename_i i j t
      have e : i = j := of_decide_eq_true h
      subst e
      exact ⟨.int i, ⟨t, rfl⟩, fun _ => .int i⟩
    · rename_i x y t
      have e : x = y := of_decide_eq_true h
      subst e
      exact ⟨.str x, ⟨t, rfl⟩, fun _ => .str x⟩
    · rename_i ds a
      split at h
      · rename_i c dd its m sl q
        obtain ⟨h1, h⟩ := He.ba h
        obtain ⟨h2, h3⟩ := He.ba h
        obtain ⟨vs, rs, qs⟩ := relDs_ok (relDn_ok n) h3
        exact ⟨.ref a, rfl, fun Z => .tup (.inr ⟨_, its, m, q, congrArg Value.type (of_decide_eq_true h1), rfl, of_decide_eq_true h2, rs⟩) (qs Z)⟩
      · cases h
    · cases h
/-- a constant of the module; a name that stands for a built-in function -/
def conB (K : PySem.W.Frag) (q : Str × D) : Bool := match PySem.W.nsIn K mainGlobals q.1 with
  | some (some u) => relDn K 8 q.2 u
  | _ => false
def modB (K : PySem.W.Frag) (q : Str × String) : Bool := He.eqO (PySem.W.nsIn K mainGlobals q.1) (some (some (.builtin q.2)))
def exB (T : Tab) (K : PySem.W.Frag) : Bool := T.cons.all (conB K) && T.mods.all (modB K)
def faOf (rs : List Fd) (T : Tab) : List He.Fa := rs.map (fun r => .glo r.x) ++ T.blts.map fun q => .free q.1
def fnOf (rs : List Fd) : List He.DefD := rs.map fun r => ⟨(r.x, none), r.x, r.x, defArgs r.st, defBody r.st, defScope r.st, [], []⟩
def tabB (rs : List Fd) (T : Tab) : Bool := rs.all scB && (rs.all (fun r => okNm r.x) && (T.cons.all (fun q => okNm q.1) && (T.mods.all (fun q => okNm q.1) && T.blts.all fun q => decide (q.1 = (q.2.name : Str)))))
theorem lookup_mem {α : Type} {x : Str} {v : α} : ∀ {l : List (Str × α)}, l.lookup x = some v → (x, v) ∈ l
  | [], h => by cases h
  | (y, w) :: l, h => by
    rw [List.lookup_cons] at h
    cases q : (x == y) with
    | true => rw [q] at h; cases h; rw [beq_iff_eq.mp q]; exact List.mem_cons_self ..
    | false => rw [q] at h; exact List.mem_cons_of_mem _ (lookup_mem h)
/-- what the head must tell -/
structure Wd (rs : List Fd) (T : Tab) (K : PySem.W.Frag) (mg : Str → Option Value) : Prop where
  fd : ∀ r ∈ rs, ∃ fd, FunD K r.x r.x (defArgs r.st) (defBody r.st) (defScope r.st) [] [] (He.ga K r.x) fd
  glo : ∀ r ∈ rs, mg r.x = some (.ref (He.ga K r.x))
  con : ∀ q ∈ T.cons, ∃ u v, mg q.1 = some u ∧ RelV v u ∧ ∀ Z, Dp K Z v q.2
  mod : ∀ q ∈ T.mods, mg q.1 = some (.builtin q.2)
  blt : ∀ q ∈ T.blts, mg q.1 = none
theorem wd_of {rs : List Fd} {T : Tab} {w : World} {h h' : Heap} {K : PySem.W.Frag} {mg : Str → Option Value} (X : K.In h) (G : h.Ns mainGlobals mg) (c : He.SaysX (faOf rs T) (fnOf rs) [] [] (exB T) w h' K) : Wd rs T K mg := by
  have d : He.SaysD (faOf rs T) (fnOf rs) K := congrArg (fun z : He.AlT => z.1) c.t
  obtain ⟨e1, e2⟩ := He.ba (show (T.cons.all (conB K) && T.mods.all (modB K)) = true from c.more)
  refine ⟨fun r hr => ?_, fun r hr => ?_, fun q hq => ?_, fun q hq => ?_, fun q hq => ?_⟩
  · exact d.defs (d := ⟨(r.x, none), r.x, r.x, defArgs r.st, defBody r.st, defScope r.st, [], []⟩) (List.mem_map.mpr ⟨r, hr, rfl⟩)
  · exact He.glo_ok X G (d.facts (f := .glo r.x) (List.mem_append_left _ (List.mem_map.mpr ⟨r, hr, rfl⟩)))
  · have := List.all_eq_true.mp e1 q hq
    unfold conB at this
    split at this
    · rename_i u e
      obtain ⟨v, r, z⟩ := relDn_ok 8 _ _ this
      exact ⟨u, v, PySem.W.mg_of X G e, r, z⟩
    · cases this
  · have := List.all_eq_true.mp e2 q hq
    exact PySem.W.mg_of X G (He.eqO_ok this)
  · exact He.free_ok X G (d.facts (f := .free q.1) (List.mem_append_right _ (List.mem_map.mpr ⟨q, hq, rfl⟩)))
/-- the program's defs all keep what their evaluation says -/
theorem all_ok {P : Program} {w : World} {K : PySem.W.Frag} {mg : Str → Option Value} {base : Heap} {rs : List Fd} {T : Tab} {wf fuel : Nat} (W : Wd rs T K mg) (hT : tabB rs T = true) (hfn : T.fns = fnsFrom 0 rs) (hb : AllR BindOk rs) (hk : AllR (KwOk rs) T.kws) :
    ∀ (n i : Nat) (r : Fd), rs[i]? = some r → ∀ fd, FunD K r.x r.x (defArgs r.st) (defBody r.st) (defScope r.st) [] [] (He.ga K r.x) fd → FnOk P w K mg base CX0 n (He.ga K r.x) fd r.ps (spF K r.fl.length (runF rs T wf fuel n i)) := by
  unfold tabB at hT
  simp only [Bool.and_eq_true] at hT
  obtain ⟨t1, t2, t3, t4, t5⟩ := hT
  intro n
  induction n with
  | zero =>
    intro i r hr fd F
    have no : ∀ {vs : List V} {H : Hp} {Q : VK} {E : XK}, spF K r.fl.length (runF rs T wf fuel 0 i) vs H Q E → False := fun h => by
      obtain ⟨_, _, _, _, _, _, _, _, _, e, _⟩ := h
      cases e
    exact ⟨fun vs H Q E h => (no h).elim, fun A outer s H args us vs Q E _ _ _ _ h => (no h).elim⟩
  | succ n ih =>
    intro i r hr fd F
    have hm := List.mem_of_getElem? hr
    obtain ⟨S, hl, hn⟩ := scB_ok (List.all_eq_true.mp t1 r hm)
    have e : runF rs T wf fuel (n + 1) i = callFn r.N.length (dSs (den T r.N (runF rs T wf fuel n) wf fuel) (defScope r.st) (defBody r.st)) := by
      show (match rs[i]? with | some r => _ | none => _) = _
      rw [hr]
    rw [e, hl]
    refine fn_ok F S fun cdv A outer s H E hroom => ?_
    have ok : XOk T r.N (runF rs T wf fuel n) (cxOf CX0 P w K mg base r.N r.x (defScope r.st) (He.ga K r.x) cdv A outer s H E).nox := by
      refine ⟨rfl, S.nd, hn, rfl, S.kind, hroom.units, rfl, ?_, ?_, ?_, ?_, ?_⟩
      · intro x j fl h
        rw [hfn] at h
        obtain ⟨r', j', h1, h2, h3, h4⟩ := fns_get h
        have hm' := List.mem_of_getElem? h2
        obtain ⟨fd', F'⟩ := W.fd r' hm'
        have ej : j' = j := by omega
        rw [← h3, ← h4, ← ej]
        refine ⟨List.all_eq_true.mp t2 r' hm', _, fd', r'.ps, n, W.glo r' hm', F'.kp, F'.bindsN (hb.get r' hm'), ih j' r' h2 fd' F', hroom⟩
      · intro x j fl m ks perm h hkw
        rw [hfn] at h
        obtain ⟨r', j', h1, h2, h3, h4⟩ := fns_get h
        have hm' := List.mem_of_getElem? h2
        obtain ⟨i0, r0, g1, g2, g3, g4, g5, g6, g7⟩ := hk.get _ hkw
        have ej : j' = j := by omega
        have ei : j' = i0 := g3 j' r' h2 h3
        subst ei
        rw [g1] at h2
        have er : r0 = r' := Option.some.inj h2
        subst er
        obtain ⟨fd', F'⟩ := W.fd r0 hm'
        rw [← h3, ← h4, ← ej]
        refine ⟨g4, g5, _, fd', r0.ps, n, W.glo r0 hm', F'.kp, ⟨fun s us ws _ hlen => ?_, fun r1 r2 => pick_rel r1 r2⟩, ih j' r0 g1 fd' F', hroom⟩
        have hp : us.length = m ∧ ws.length = ks.length := by
          by_cases hh : us.length = m ∧ ws.length = ks.length
          · exact hh
          · unfold pick at hlen
            rw [if_neg hh] at hlen
            exact absurd (List.eq_nil_of_length_eq_zero hlen.symm) g7
        obtain ⟨oc, od, dV, kV, doc, pm, an, cd, ct, osl, rfl, lk, hcd, hD, hK⟩ := F'.ex
        rcases hD with ⟨_, rfl⟩ | ⟨e, _⟩
        · exact .of_eq (g6 kV doc pm an cd ct us ws hp.1 hp.2)
        · exact absurd rfl e
      · intro x d h
        have hm' := lookup_mem h
        exact ⟨List.all_eq_true.mp t3 _ hm', W.con _ hm'⟩
      · intro x b h
        have hm' := lookup_mem h
        exact ⟨of_decide_eq_true (List.all_eq_true.mp t5 _ hm'), W.blt _ hm'⟩
      · intro x id h
        have hm' := lookup_mem h
        exact ⟨List.all_eq_true.mp t4 _ hm', W.mod _ hm'⟩
    exact dSs_ok (den_good fuel) ok (fun _ => rfl) _
end Ev
namespace Ev
open PySem PySem.Spec PyProof.Rows L2
/-! ## the law's end -/
theorem ints_da {K : PySem.W.Frag} {Z : Hp} : ∀ ns : List Int, DpAll K Z (ns.map V.int) (ns.map PyData.int)
  | [] => .nil
  | n :: ns => .cons (.int n) (ints_da ns)
theorem end_sp {K : PySem.W.Frag} {H : Hp} {a : Addr} {ns : List Int} {g : Fn} {E : XK} (hS : SqL K H a (ns.map V.int)) (e : g [.val (.list (ns.map PyData.int))] = some (.val (.bool true), [])) : spF K 1 g [.ref a] H (fun v _ => v = .bl true) E := by
  refine ⟨rfl, H, H, [.val (.list (ns.map PyData.int))], .val (.bool true), [], Same.refl _, Same.refl _, .val (.lst hS (ints_da ns)) .nil, e, fun v Z' H' _ _ _ _ q => ?_⟩
  cases q
  rfl
theorem law_end {l : PySem.W.OpenLaw} {q : Program} {loose : List Str} {XP : (Str → Option Value) → Heap → Prop} {d : DefRec} {rs : List Fd} {T : Tab} {wf fuel i n m : Nat} {r : Fd} {p : Str} (hT : tabB rs T = true) (hfn : T.fns = fnsFrom 0 rs) (hb : AllR BindOk rs) (hk : AllR (KwOk rs) T.kws)
    (hr : rs[i]? = some r) (hx : d.name = r.x) (hps : r.ps = [p]) (hfl : r.fl = [false]) (hn : l.most = some m) (hn2 : m ≤ sizeLine) (hdf : d.params.defaults = []) (hroom : Room n callerA)
    (main : ∀ ns : List Int, ns.length ≤ m → runF rs T wf fuel n i [.val (.list (ns.map PyData.int))] = some (.val (.bool true), [])) :
    PySem.W.WalkO q loose XP (He.hookX 4 (faOf rs T) (fnOf rs) [] [] (exB T)).says l.row.toRowW d [] (fun f vs => PySem.call f vs) := by
  refine L2.walk_ofE (l := l) (n := m) (k := n) (x := p) (CX := L2.CX0) hn hn2 hdf hroom ?_ (fun _ _ _ _ z => z)
  intro w mg fa h Y G hmg0
  obtain ⟨K, KX, c⟩ := Y
  have hm := List.mem_of_getElem? hr
  have W : Wd rs T K mg := wd_of KX G c
  obtain ⟨fd, F⟩ := W.fd r hm
  have e := W.glo r hm
  rw [hx, e] at hmg0
  cases hmg0
  have b := FunD.bindsA (ps := r.ps) F (hb.get r hm)
  refine ⟨K, fd, spF K r.fl.length (runF rs T wf fuel n i), KX, fun s u => ?_, fun H a ns hl _ hS => ?_, fun base _ _ => ?_⟩
  · have := b s [u] (by rw [hps]; rfl)
    rw [hps] at this
    exact this
  · rw [hfl]
    exact end_sp hS (main ns hl)
  · have := all_ok (P := l.prog) (w := w) (base := base) (wf := wf) (fuel := fuel) W hT hfn hb hk n i r hr fd F
    rw [hps] at this
    exact this
end Ev
namespace Ev
open PySem PySem.Spec PyProof.Rows L2
/-! ## evaluation, step by step (to be rewritten from the outside) -/
section
variable {env : En} {i : Nat} {α : Type}
theorem x_var : eVar i env = (match env[i]? with
  | some (.val d) => some (d, env)
  | some (.own ds) => some (.list ds, env.set i (.val (.list ds)))
  | _ => none) := rfl
theorem x_C {d : D} : eC d env = some (d, env) := rfl
theorem x_op {g : D → D → Option D} {a b : Fx D} : eOp g a b env = (match a env with
  | some (x, e) => (match b e with
    | some (y, e2) => (match g x y with
      | some z => some (z, e2)
      | none => none)
    | none => none)
  | none => none) := by
  unfold eOp
  rcases a env with _ | ⟨x, e⟩
  · rfl
  · dsimp only [Option.bind]
    rcases b e with _ | ⟨y, e2⟩
    · rfl
    · dsimp only [Option.bind]
      cases g x y <;> rfl
theorem x_fz {f : Fx R} : eFz f env = (match f env with
  | some (.val d, e) => some (d, e)
  | some (.fresh ds, e) => some (.list ds, e)
  | none => none) := by
  unfold eFz
  rcases f env with _ | ⟨r, e⟩
  · rfl
  · cases r <;> rfl
theorem x_rV {f : Fx D} : rV f env = (match f env with
  | some (d, e) => some (.val d, e)
  | none => none) := by
  unfold rV
  rcases f env with _ | ⟨r, e⟩ <;> rfl
theorem x_B {f : Fx D} : eB f env = (match f env with
  | some (.bool b, e) => some (b, e)
  | _ => none) := rfl
theorem x_chain {g g' : D → D → Option D} {a b c : Fx D} : eChain g g' a b c env = (match a env with
  | some (x, e) => (match b e with
    | some (y, e2) => (match g x y with
      | some (.bool t) => if t = true then (match c e2 with
        | some (z, e3) => (match g' y z with
          | some w => some (w, e3)
          | none => none)
        | none => none) else some (.bool false, e2)
      | _ => none)
    | none => none)
  | none => none) := by
  unfold eChain
  rcases a env with _ | ⟨x, e⟩
  · rfl
  · dsimp only [Option.bind]
    rcases b e with _ | ⟨y, e2⟩
    · rfl
    · dsimp only [Option.bind]
      rcases g x y with _ | d
      · rfl
      · cases d with
        | bool t =>
          cases t with
          | false => rfl
          | true =>
            simp only [if_true]
            rcases c e2 with _ | ⟨z, e3⟩
            · rfl
            · dsimp only [Option.bind]
              cases g' y z <;> rfl
        | _ => rfl
theorem x_tru {f : Fx D} : eTru f env = (match f env with
  | some (d, e) => (match truD d with
    | some b => some (b, e)
    | none => none)
  | none => none) := by
  unfold eTru
  rcases f env with _ | ⟨d, e⟩
  · rfl
  · dsimp only [Option.bind]
    cases truD d <;> rfl
theorem x_notT {f : Fx Bool} : eNotT f env = (match f env with
  | some (b, e) => some (!b, e)
  | none => none) := by
  unfold eNotT
  rcases f env with _ | ⟨d, e⟩ <;> rfl
theorem x_andT {f g : Fx Bool} : eAndT f g env = (match f env with
  | some (b, e) => if b = true then g e else some (false, e)
  | none => none) := by
  unfold eAndT
  rcases f env with _ | ⟨b, e⟩
  · rfl
  · cases b <;> rfl
theorem x_orT {f g : Fx Bool} : eOrT f g env = (match f env with
  | some (b, e) => if b = true then some (true, e) else g e
  | none => none) := by
  unfold eOrT
  rcases f env with _ | ⟨b, e⟩
  · rfl
  · cases b <;> rfl
theorem x_and {f g : Fx D} : eAnd f g env = (match f env with
  | some (.bool b, e) => if b = true then g e else some (.bool false, e)
  | _ => none) := by
  unfold eAnd
  rcases f env with _ | ⟨d, e⟩
  · rfl
  · cases d with
    | bool b => cases b <;> rfl
    | _ => rfl
theorem x_or {f g : Fx D} : eOr f g env = (match f env with
  | some (.bool b, e) => if b = true then some (.bool true, e) else g e
  | _ => none) := by
  unfold eOr
  rcases f env with _ | ⟨d, e⟩
  · rfl
  · cases d with
    | bool b => cases b <;> rfl
    | _ => rfl
theorem x_not {f : Fx D} : eNot f env = (match f env with
  | some (.bool b, e) => some (.bool (!b), e)
  | _ => none) := rfl
theorem x_neg {f : Fx D} : eNeg f env = (match f env with
  | some (.int i, e) => some (.int (-i), e)
  | _ => none) := rfl
theorem x_if {c : Fx Bool} {f g : Fx α} : eIf c f g env = (match c env with
  | some (b, e) => if b = true then f e else g e
  | none => none) := by
  unfold eIf
  rcases c env with _ | ⟨b, e⟩
  · rfl
  · cases b <;> rfl
theorem x_aNil : aNil env = some ([], env) := rfl
theorem x_aVal {f : Fx D} {g : Fx (List AR)} : aVal f g env = (match f env with
  | some (d, e) => (match g e with
    | some (as, e2) => some (.val d :: as, e2)
    | none => none)
  | none => none) := by
  unfold aVal
  rcases f env with _ | ⟨d, e⟩
  · rfl
  · dsimp only [Option.bind]
    rcases g e with _ | ⟨as, e2⟩ <;> rfl
theorem x_aSlot {g : Fx (List AR)} : aSlot i g env = (match env[i]? with
  | some s => if isOwn s = true then (match g env with
    | some (as, e) => some (.slot i :: as, e)
    | none => none) else none
  | none => none) := by
  unfold aSlot
  rcases env[i]? with _ | s
  · rfl
  · dsimp only
    rcases g env with _ | ⟨as, e2⟩ <;> rfl
theorem x_aTmp {f : Fx R} {g : Fx (List AR)} : aTmp f g env = (match f env with
  | some (.fresh ds, e) => (match g e with
    | some (as, e2) => some (.tmp ds :: as, e2)
    | none => none)
  | _ => none) := by
  unfold aTmp
  rcases f env with _ | ⟨r, e⟩
  · rfl
  · cases r with
    | val => rfl
    | fresh ds =>
      dsimp only
      rcases g e with _ | ⟨as, e2⟩ <;> rfl
theorem x_aR {f : Fx R} {g : Fx (List AR)} : aR f g env = (match f env with
  | some (.fresh ds, e) => (match g e with
    | some (as, e2) => some (.tmp ds :: as, e2)
    | none => none)
  | some (.val d, e) => (match g e with
    | some (as, e2) => some (.val d :: as, e2)
    | none => none)
  | none => none) := by
  unfold aR
  rcases f env with _ | ⟨r, e⟩
  · rfl
  · cases r with
    | val d =>
      dsimp only
      rcases g e with _ | ⟨as, e2⟩ <;> rfl
    | fresh ds =>
      dsimp only
      rcases g e with _ | ⟨as, e2⟩ <;> rfl
theorem x_call {g : Fn} {f : Fx (List AR)} : eCall g f env = (match f env with
  | some (as, env1) => if natNodup (slotsOf as) = true then
      (match toAv env1 as with
      | some avs => (match g avs with
        | some (r, outs) => (match putOuts as outs env1 with
          | some e => some (r, e)
          | none => none)
        | none => none)
      | none => none) else none
  | none => none) := by
  unfold eCall
  rcases f env with _ | ⟨as, e⟩
  · rfl
  · dsimp only
    rcases toAv e as with _ | avs
    · rfl
    · dsimp only
      rcases g avs with _ | ⟨r, outs⟩
      · rfl
      · dsimp only
        rcases putOuts as outs e with _ | q <;> rfl
theorem x_callK {g : Fn} {n m : Nat} {perm : List Nat} {f fk : Fx (List D)} : eCallK g n m perm f fk env = (match f env with
  | some (ds, e) => (match fk e with
    | some (es, e2) => (match g ((pick n m perm ds es).map .val) with
      | some (r, []) => some (r, e2)
      | _ => none)
    | none => none)
  | none => none) := by
  unfold eCallK
  rcases f env with _ | ⟨ds, e⟩
  · rfl
  · dsimp only [Option.bind]
    rcases fk e with _ | ⟨es, e2⟩
    · rfl
    · rfl
theorem x_dNil : dNil env = some ([], env) := rfl
theorem x_dCons {f : Fx D} {g : Fx (List D)} : dCons f g env = (match f env with
  | some (d, e) => (match g e with
    | some (ds, e2) => some (d :: ds, e2)
    | none => none)
  | none => none) := by
  unfold dCons
  rcases f env with _ | ⟨d, e⟩
  · rfl
  · dsimp only [Option.bind]
    rcases g e with _ | ⟨as, e2⟩ <;> rfl
theorem x_tup {f : Fx (List D)} : eTup f env = (match f env with
  | some (ds, e) => if ds.length ≤ sizeLine then some (.tuple ds, e) else none
  | none => none) := rfl
theorem x_lst {f : Fx (List D)} : eLst f env = (match f env with
  | some (ds, e) => if ds.length ≤ sizeLine then some (.fresh ds, e) else none
  | none => none) := rfl
theorem x_itemN {f : Fx D} : eItemN i f env = (match env[i]? with
  | some (.val d) => (match f env with
    | some (k, e) => (match gItem d k with
      | some z => some (z, e)
      | none => none)
    | none => none)
  | some (.own _) => ownItem i (f env)
  | some (.par _) => ownItem i (f env)
  | _ => none) := by
  unfold eItemN
  rcases env[i]? with _ | s
  · rfl
  · cases s with
    | val d =>
      dsimp only
      rcases f env with _ | ⟨k, e⟩
      · rfl
      · dsimp only [Option.bind]
        cases gItem d k <;> rfl
    | _ => rfl
theorem x_ownItem {k : Int} {e : En} : ownItem i (some (.int k, e)) = (match e[i]? with
  | some (.own ds) => (match atI ds k with
    | some z => some (z, e)
    | none => none)
  | some (.par ds) => (match atI ds k with
    | some z => some (z, e)
    | none => none)
  | _ => none) := by
  unfold ownItem
  dsimp only
  rcases e[i]? with _ | s
  · rfl
  · cases s with
    | own ds =>
      dsimp only
      cases atI ds k <;> rfl
    | par ds =>
      dsimp only
      cases atI ds k <;> rfl
    | _ => rfl
theorem x_lenN : eLenN i env = (match env[i]? with
  | some (.val (.list ds)) => some (.int ds.length, env)
  | some (.val (.tuple ds)) => some (.int ds.length, env)
  | some (.val (.str z)) => if z.length ≤ sizeLine then some (.int z.length, env) else none
  | some (.own ds) => some (.int ds.length, env)
  | some (.par ds) => some (.int ds.length, env)
  | _ => none) := rfl
theorem x_blt {g : List D → Option D} {f : Fx (List D)} : eBlt g f env = (match f env with
  | some (ds, e) => (match g ds with
    | some z => some (z, e)
    | none => none)
  | none => none) := by
  unfold eBlt
  rcases f env with _ | ⟨ds, e⟩
  · rfl
  · dsimp only [Option.bind]
    cases g ds <;> rfl
theorem x_isi {t : String} {f : Fx D} : eIsi t f env = (match f env with
  | some (d, e) => (match isiD d t with
    | some b => some (.bool b, e)
    | none => none)
  | none => none) := by
  unfold eIsi
  rcases f env with _ | ⟨d, e⟩
  · rfl
  · dsimp only [Option.bind]
    cases isiD d t <;> rfl
theorem x_list {f : Fx D} : eList f env = (match f env with
  | some (d, e) => (match seqD d with
    | some ds => some (.fresh ds, e)
    | none => none)
  | none => none) := by
  unfold eList
  rcases f env with _ | ⟨d, e⟩
  · rfl
  · dsimp only [Option.bind]
    cases seqD d <;> rfl
theorem x_rgL1 {f : Fx D} : eRgL1 f env = (match f env with
  | some (.int j, e) => if rgB 0 j = true then some (.fresh (rangeD 0 (j - 0).toNat), e) else none
  | _ => none) := rfl
theorem x_rgL2 {f g : Fx D} : eRgL2 f g env = (match f env with
  | some (.int i, e) => (match g e with
    | some (.int j, e2) => if rgB i j = true then some (.fresh (rangeD i (j - i).toNat), e2) else none
    | _ => none)
  | _ => none) := rfl
theorem x_iSeq {f : Fx D} : iSeq f env = (match f env with
  | some (d, e) => (match seqD d with
    | some ds => some (ds, e)
    | none => none)
  | none => none) := by
  unfold iSeq
  rcases f env with _ | ⟨d, e⟩
  · rfl
  · dsimp only [Option.bind]
    cases seqD d <;> rfl
theorem x_iZip {f : Fx (List D)} : iZip f env = (match f env with
  | some (d, e) => (match zipOf d with
    | some ds => some (ds, e)
    | none => none)
  | none => none) := by
  unfold iZip
  rcases f env with _ | ⟨d, e⟩
  · rfl
  · dsimp only [Option.bind]
    cases zipOf d <;> rfl
theorem x_range1 {f : Fx D} : iRange1 f env = (match f env with
  | some (.int j, e) => some (rangeD 0 (j - 0).toNat, e)
  | _ => none) := rfl
theorem x_range2 {f g : Fx D} : iRange2 f g env = (match f env with
  | some (.int i, e) => (match g e with
    | some (.int j, e2) => some (rangeD i (j - i).toNat, e2)
    | _ => none)
  | _ => none) := rfl
theorem x_addR {f g : Fx D} : eAddR f g env = (match f env with
  | some (d, e) => (match g e with
    | some (d2, e2) => (match d, d2 with
      | .list xs, .list ys => if xs.length + ys.length ≤ sizeLine then some (.fresh (xs ++ ys), e2) else none
      | _, _ => none)
    | none => none)
  | none => none) := by
  unfold eAddR
  rcases f env with _ | ⟨d, e⟩
  · rfl
  · show (g e).bind _ = _
    dsimp only
    rcases g e with _ | ⟨d2, e2⟩
    · rfl
    · cases d <;> first | rfl | (cases d2 <;> rfl)
theorem x_slice {f : Fx D} {lo hi : Fx (Option Int)} : eSlice f lo hi env = (match f env with
  | some (d, e) => (match lo e with
    | some (a, e1) => (match hi e1 with
      | some (b, e2) => (match d with
        | .list ds => some (.fresh (cutD ds a b), e2)
        | .tuple ds => some (.val (.tuple (cutD ds a b)), e2)
        | _ => none)
      | none => none)
    | none => none)
  | none => none) := by
  unfold eSlice
  rcases f env with _ | ⟨d, e⟩
  · rfl
  · dsimp only [Option.bind]
    rcases lo e with _ | ⟨a, e1⟩
    · rfl
    · dsimp only [Option.bind]
      rcases hi e1 with _ | ⟨b, e2⟩
      · rfl
      · cases d <;> rfl
theorem x_partN : ePart none env = some (none, env) := rfl
theorem x_partS {f : Fx D} : ePart (some f) env = (match f env with
  | some (.int i, e) => some (some i, e)
  | _ => none) := rfl
theorem x_comp {it : Fx (List D)} {g : Gf} {c : Fx Bool} {f : Fx D} {vs : List Nat} : eComp it g c f vs env = (match it env with
  | some (ds, e) => (match compL g c f vs ds [] (wipeE e vs) with
    | some (r, e2) => some (.fresh r, e2)
    | none => none)
  | none => none) := by
  unfold eComp
  rcases it env with _ | ⟨ds, e⟩
  · rfl
  · dsimp only
    rcases compL g c f vs ds [] (wipeE e vs) with _ | ⟨r, e2⟩ <;> rfl
theorem x_skip : sSkip env = some (.nx, env) := rfl
theorem x_stuck : sStuck env = none := rfl
theorem x_break : sBreak env = some (.bk, env) := rfl
theorem x_cont : sCont env = some (.ct, env) := rfl
theorem x_seq {f g : Fx Fl} : sSeq f g env = (match f env with
  | some (.nx, e) => g e
  | some (.bk, e) => some (.bk, e)
  | some (.ct, e) => some (.ct, e)
  | some (.rt r, e) => some (.rt r, e)
  | none => none) := by
  unfold sSeq
  rcases f env with _ | ⟨l, e⟩
  · rfl
  · cases l <;> rfl
theorem x_sIf {c : Fx Bool} {f g : Fx Fl} : sIf c f g env = (match c env with
  | some (b, e) => if b = true then f e else g e
  | none => none) := by
  unfold sIf
  rcases c env with _ | ⟨b, e⟩
  · rfl
  · cases b <;> rfl
theorem x_sExpr {f : Fx R} : sExpr f env = (match f env with
  | some (_, e) => some (.nx, e)
  | none => none) := by
  unfold sExpr
  rcases f env with _ | ⟨b, e⟩ <;> rfl
theorem x_ret {f : Fx R} : sRet f env = (match f env with
  | some (r, e) => some (.rt r, e)
  | none => none) := by
  unfold sRet
  rcases f env with _ | ⟨b, e⟩ <;> rfl
theorem x_retN : sRetN env = some (.rt (.val .none), env) := rfl
theorem x_move : eMove i env = (match env[i]? with
  | some (.val d) => some (.val d, env)
  | some (.own ds) => some (.fresh ds, env.set i .no)
  | _ => none) := rfl
theorem x_setRv {d : D} : setR i (.val d) env = (match env[i]? with
  | some s => if isPar s = true then none else some (env.set i (.val d))
  | none => none) := rfl
theorem x_setRf {ds : List D} : setR i (.fresh ds) env = (match env[i]? with
  | some s => if isPar s = true then none else some (env.set i (.own ds))
  | none => none) := rfl
theorem x_set {f : Fx R} : sSet i f env = (match f env with
  | some (r, e) => (match setR i r e with
    | some e2 => some (.nx, e2)
    | none => none)
  | none => none) := by
  unfold sSet
  rcases f env with _ | ⟨r, e⟩
  · rfl
  · dsimp only [Option.bind]
    cases setR i r e <;> rfl
theorem x_gN {d : D} : gN i d env = setR i (.val d) env := rfl
theorem x_gsNil : gsNil [] env = some env := rfl
theorem x_gsCons {g : Gf} {h : List D → En → Option En} {d : D} {ds : List D} : gsCons g h (d :: ds) env = (match g d env with
  | some e => h ds e
  | none => none) := by
  show (g d env).bind (h ds) = _
  cases g d env <;> rfl
theorem x_gTup {n : Nat} {g : List D → En → Option En} {ds : List D} : gTup n g (.tuple ds) env = if ds.length = n then g ds env else none := rfl
theorem x_gIx {f : Fx D} {d : D} : gIx i f d env = (match env[i]? with
  | some s => if isOwn s = true then (match f env with
    | some (.int k, e) => setAt i k d e
    | _ => none) else none
  | none => none) := rfl
theorem x_setAt {k : Int} {d : D} : setAt i k d env = (match env[i]? with
  | some (.own ds) => (match ixN ds.length k with
    | some j => some (env.set i (.own (ds.set j d)))
    | none => none)
  | some (.par ds) => (match ixN ds.length k with
    | some j => some (env.set i (.par (ds.set j d)))
    | none => none)
  | _ => none) := by
  unfold setAt
  rcases env[i]? with _ | s
  · rfl
  · cases s with
    | own ds =>
      dsimp only
      cases ixN ds.length k <;> rfl
    | par ds =>
      dsimp only
      cases ixN ds.length k <;> rfl
    | _ => rfl
theorem x_asg {f : Fx D} {g : Gf} : sAsg f g env = (match f env with
  | some (d, e) => (match g d e with
    | some e2 => some (.nx, e2)
    | none => none)
  | none => none) := by
  unfold sAsg
  rcases f env with _ | ⟨r, e⟩
  · rfl
  · dsimp only [Option.bind]
    cases g r e <;> rfl
theorem x_par {is : List Nat} {f : Fx (List AR)} : sPar is f env = (match f env with
  | some (as, e) => (match setMany is as e with
    | some e2 => some (.nx, e2)
    | none => none)
  | none => none) := by
  unfold sPar
  rcases f env with _ | ⟨r, e⟩
  · rfl
  · dsimp only [Option.bind]
    cases setMany is r e <;> rfl
theorem x_sm0 : setMany [] [] env = some env := rfl
theorem x_smV {is : List Nat} {d : D} {as : List AR} : setMany (i :: is) (.val d :: as) env = (match setR i (.val d) env with
  | some e => setMany is as e
  | none => none) := by
  show (setR i (.val d) env).bind (setMany is as) = _
  cases setR i (.val d) env <;> rfl
theorem x_smF {is : List Nat} {ds : List D} {as : List AR} : setMany (i :: is) (.tmp ds :: as) env = (match setR i (.fresh ds) env with
  | some e => setMany is as e
  | none => none) := by
  show (setR i (.fresh ds) env).bind (setMany is as) = _
  cases setR i (.fresh ds) env <;> rfl
theorem x_app {f : Fx D} : sApp i f env = (match env[i]? with
  | some s => if isOwn s = true then (match f env with
    | some (d, e) => (match appAt i d e with
      | some e2 => some (.nx, e2)
      | none => none)
    | none => none) else none
  | none => none) := by
  unfold sApp
  rcases env[i]? with _ | s
  · rfl
  · dsimp only
    rcases f env with _ | ⟨d, e⟩
    · rfl
    · dsimp only
      cases appAt i d e <;> rfl
theorem x_for {f : Fx (List D)} {g : Gf} {b : Fx Fl} : sFor f g b env = (match f env with
  | some (ds, e) => forL g b ds e
  | none => none) := rfl
theorem x_for0 {g : Gf} {b : Fx Fl} : forL g b [] env = some (.nx, env) := rfl
theorem x_for1 {g : Gf} {b : Fx Fl} {d : D} {ds : List D} : forL g b (d :: ds) env = (match g d env with
  | some e1 => (match b e1 with
    | some (.nx, e2) => forL g b ds e2
    | some (.ct, e2) => forL g b ds e2
    | some (.bk, e2) => some (.nx, e2)
    | some (.rt r, e2) => some (.rt r, e2)
    | none => none)
  | none => none) := rfl
theorem x_comp0 {g : Gf} {c : Fx Bool} {f : Fx D} {vs : List Nat} {acc : List D} : compL g c f vs [] acc env = some (acc, env) := rfl
theorem x_comp1 {g : Gf} {c : Fx Bool} {f : Fx D} {vs : List Nat} {acc : List D} {d : D} {ds : List D} : compL g c f vs (d :: ds) acc env = (match g d env with
  | some e1 => (match c e1 with
    | some (b, e2) => if b = true then (match f e2 with
      | some (y, e3) => if acc.length < sizeLine then compL g c f vs ds (acc ++ [y]) (wipeE e3 vs) else none
      | none => none) else compL g c f vs ds acc (wipeE e2 vs)
    | none => none)
  | none => none) := by
  show (match g d env with
    | some e1 => _
    | none => none) = _
  rcases g d env with _ | e1
  · rfl
  · dsimp only
    rcases c e1 with _ | ⟨b, e2⟩
    · rfl
    · cases b <;> rfl
theorem x_fn {n : Nat} {b : Fx Fl} {avs : List AV} : callFn n b avs = (match b (initE n avs) with
  | some (.rt r, e) => (match outsOf avs 0 e with
    | some o => some (r, o)
    | none => none)
  | some (.nx, e) => (match outsOf avs 0 e with
    | some o => some (.val .none, o)
    | none => none)
  | _ => none) := by
  unfold callFn
  rcases b (initE n avs) with _ | ⟨l, e⟩
  · rfl
  · cases l with
    | nx =>
      dsimp only
      cases outsOf avs 0 e <;> rfl
    | rt r =>
      dsimp only
      cases outsOf avs 0 e <;> rfl
    | _ => rfl
end
/-! ### operators -/
section
variable {x y : Int} {b c : Bool} {xs ys : List D} {d e : D}
theorem q_addI : gAdd (.int x) (.int y) = some (.int (x + y)) := rfl
theorem q_addT : gAdd (.tuple xs) (.tuple ys) = if xs.length + ys.length ≤ sizeLine then some (.tuple (xs ++ ys)) else none := rfl
theorem q_addL : gAdd (.list xs) (.list ys) = if xs.length + ys.length ≤ sizeLine then some (.list (xs ++ ys)) else none := rfl
theorem q_subI : gSub (.int x) (.int y) = some (.int (x - y)) := rfl
theorem q_mulI (h : mulOk x y = true) : gMul (.int x) (.int y) = some (.int (x * y)) := if_pos h
theorem q_modI (h : 0 < y) : gMod (.int x) (.int y) = some (.int (x % y)) := by
  show (if decide (y ≠ 0) = true then some (PyData.int (x.fmod y)) else none) = _
  rw [if_pos (decide_eq_true (by omega)), Int.fmod_eq_emod_of_nonneg _ (by omega)]
theorem q_fdivI (h : 0 < y) (h2 : y.natAbs.log2 < 9000) : gFdiv (.int x) (.int y) = some (.int (x / y)) := by
  show (if fdivOk x y = true then some (PyData.int (x.fdiv y)) else none) = _
  rw [if_pos (by unfold fdivOk; simp only [Bool.and_eq_true, decide_eq_true_eq]; exact ⟨by omega, h2⟩), Int.fdiv_eq_ediv_of_nonneg _ (by omega)]
theorem q_ltI : gLt (.int x) (.int y) = some (.bool (decide (x < y))) := rfl
theorem q_leI : gLe (.int x) (.int y) = some (.bool (decide (x ≤ y))) := rfl
theorem q_gtI : gGt (.int x) (.int y) = some (.bool (decide (y < x))) := rfl
theorem q_geI : gGe (.int x) (.int y) = some (.bool (decide (y ≤ x))) := rfl
theorem q_isN : gIs d .none = some (.bool (isNone d)) := rfl
theorem q_isNotN : gIsNot d .none = some (.bool (!isNone d)) := rfl
theorem q_eqI : gEq (.int x) (.int y) = some (.bool (decide (x = y))) := by
  simp [gEq, eqOk, PyData.depth, PyData.eqv] <;> rfl
theorem q_neI : gNe (.int x) (.int y) = some (.bool (!decide (x = y))) := by
  simp [gNe, eqOk, PyData.depth, PyData.eqv] <;> rfl
theorem q_eqB : gEq (.bool b) (.bool c) = some (.bool (b == c)) := by
  simp [gEq, eqOk, PyData.depth, PyData.eqv]
theorem q_eqT0 : gEq (.tuple []) (.tuple []) = some (.bool true) := by
  simp [gEq, eqOk, PyData.depth, PyData.depthAll, PyData.eqv, PyData.eqvAll]
theorem q_eqT1 : gEq (.tuple (d :: xs)) (.tuple []) = some (.bool false) := by
  have h : eqOk (.tuple (d :: xs)) (.tuple []) = true := decide_eq_true (by simp only [PyData.depth, PyData.depthAll]; omega)
  unfold gEq
  rw [if_pos h]
  simp [PyData.eqv, PyData.eqvAll]
theorem q_neT0 : gNe (.tuple []) (.tuple []) = some (.bool false) := by
  simp [gNe, eqOk, PyData.depth, PyData.depthAll, PyData.eqv, PyData.eqvAll]
theorem q_neT1 : gNe (.tuple (d :: xs)) (.tuple []) = some (.bool true) := by
  have h : eqOk (.tuple (d :: xs)) (.tuple []) = true := decide_eq_true (by simp only [PyData.depth, PyData.depthAll]; omega)
  unfold gNe
  rw [if_pos h]
  simp [PyData.eqv, PyData.eqvAll]
theorem q_eqL0 : gEq (.list []) (.list []) = some (.bool true) := by
  simp [gEq, eqOk, PyData.depth, PyData.depthAll, PyData.eqv, PyData.eqvAll]
theorem q_eqL1 : gEq (.list (d :: xs)) (.list []) = some (.bool false) := by
  have h : eqOk (.list (d :: xs)) (.list []) = true := decide_eq_true (by simp only [PyData.depth, PyData.depthAll]; omega)
  unfold gEq
  rw [if_pos h]
  simp [PyData.eqv, PyData.eqvAll]
theorem q_neL0 : gNe (.list []) (.list []) = some (.bool false) := by
  simp [gNe, eqOk, PyData.depth, PyData.depthAll, PyData.eqv, PyData.eqvAll]
theorem q_neL1 : gNe (.list (d :: xs)) (.list []) = some (.bool true) := by
  have h : eqOk (.list (d :: xs)) (.list []) = true := decide_eq_true (by simp only [PyData.depth, PyData.depthAll]; omega)
  unfold gNe
  rw [if_pos h]
  simp [PyData.eqv, PyData.eqvAll]
theorem q_int : gInt [.int x] = some (.int x) := rfl
theorem q_abs : gAbs [.int x] = some (.int (if x < 0 then -x else x)) := rfl
theorem q_min2 : gMin [.int x, .int y] = some (.int (min x y)) := by
  show some (PyData.int (if y < x then y else x)) = _
  congr 2
  split <;> omega
theorem q_max2 : gMax [.int x, .int y] = some (.int (max x y)) := by
  show some (PyData.int (if y > x then y else x)) = _
  congr 2
  split <;> omega
theorem q_divmod (h : 0 < y) (h2 : y < 1073741824) : gDivmod [.int x, .int y] = some (.tuple [.int (x / y), .int (x % y)]) := by
  show (if (decide (0 < y) && decide (y < 1073741824)) = true then _ else none) = _
  rw [if_pos (by simp only [Bool.and_eq_true, decide_eq_true_eq]; exact ⟨h, h2⟩)]
theorem mulOk_lt {a b : Nat} (ha : x.natAbs < 2 ^ a) (hb : y.natAbs < 2 ^ b) (h : a + b < 1000000) : mulOk x y = true := by
  have lg : ∀ {n k : Nat}, n < 2 ^ k → n.log2 ≤ k := fun {n k} h => by
    by_cases z : n = 0
    · subst z; simp
    · exact Nat.le_of_lt ((Nat.log2_lt z).mpr h)
  have := lg ha
  have := lg hb
  exact decide_eq_true (by omega)
end
theorem q_at0 {d : D} {xs : List D} : atI (d :: xs) 0 = some d := by
  unfold atI ixN
  rw [if_pos (by omega), if_pos (by simp only [List.length_cons]; omega)]
  rfl
theorem q_at1 {d e : D} {xs : List D} : atI (d :: e :: xs) 1 = some e := by
  unfold atI ixN
  rw [if_pos (by omega), if_pos (by simp only [List.length_cons]; omega)]
  rfl
theorem q_at2 {d e f : D} {xs : List D} : atI (d :: e :: f :: xs) 2 = some f := by
  unfold atI ixN
  rw [if_pos (by omega), if_pos (by simp only [List.length_cons]; omega)]
  rfl
theorem q_at3 {d e f g : D} {xs : List D} : atI (d :: e :: f :: g :: xs) 3 = some g := by
  unfold atI ixN
  rw [if_pos (by omega), if_pos (by simp only [List.length_cons]; omega)]
  rfl
theorem q_ix0 {n : Nat} : ixN (n + 1) 0 = some 0 := by
  unfold ixN
  rw [if_pos (by omega), if_pos (by omega)]
  rfl
theorem q_ix1 {n : Nat} : ixN (n + 1 + 1) 1 = some 1 := by
  unfold ixN
  rw [if_pos (by omega), if_pos (by omega)]
  rfl
theorem q_ix2 {n : Nat} : ixN (n + 1 + 1 + 1) 2 = some 2 := by
  unfold ixN
  rw [if_pos (by omega), if_pos (by omega)]
  rfl
theorem q_sz : sizeLine = 16777216 := rfl
theorem q_ixN {n : Nat} {i : Int} (h0 : 0 ≤ i) (h1 : i < n) : ixN n i = some i.toNat := by
  unfold ixN
  rw [if_pos h0, if_pos h1]
end Ev
namespace Ev
open PySem PySem.Spec PyProof.Rows L2
/-! ## more single steps -/
theorem q_iteS {b : Bool} [Decidable (b = true)] {x y : D} {e : En} : (if b = true then some (x, e) else some (y, e)) = some (if b = true then x else y, e) := by cases b <;> simp
theorem q_iteT {b : Bool} [Decidable (b = true)] {x y : Bool} {e : En} : (if b = true then some (x, e) else some (y, e)) = some (if b = true then x else y, e) := by cases b <;> simp
theorem q_iteR {b : Bool} [Decidable (b = true)] {x y : R} {e : En} : (if b = true then some (x, e) else some (y, e)) = some (if b = true then x else y, e) := by cases b <;> simp
theorem q_iteV {b : Bool} [Decidable (b = true)] {x y : D} : (if b = true then R.val x else R.val y) = R.val (if b = true then x else y) := by cases b <;> simp
theorem q_iteBB {b x y : Bool} [Decidable (b = true)] : (if b = true then PyData.bool x else PyData.bool y) = PyData.bool (if b = true then x else y) := by cases b <;> simp
theorem q_iteII {b : Bool} [Decidable (b = true)] {x y : Int} : (if b = true then PyData.int x else PyData.int y) = PyData.int (if b = true then x else y) := by cases b <;> simp
theorem q_iteAnd {b c : Bool} [Decidable (b = true)] : (if b = true then c else false) = (b && c) := by cases b <;> simp
theorem q_iteOr {b c : Bool} [Decidable (b = true)] : (if b = true then true else c) = (b || c) := by cases b <;> simp
theorem q_iteNot {b : Bool} [Decidable (b = true)] : (if b = true then false else true) = !b := by cases b <;> simp
theorem q_iteCon {b : Bool} [Decidable (b = true)] {x y : D} {xs ys : List D} : (if b = true then x :: xs else y :: ys) = (if b = true then x else y) :: (if b = true then xs else ys) := by cases b <;> simp
theorem q_pa0 : isPar .no = false := rfl
theorem q_pa1 {d : D} : isPar (.val d) = false := rfl
theorem q_pa2 {ds : List D} : isPar (.own ds) = false := rfl
theorem q_pa3 {ds : List D} : isPar (.par ds) = true := rfl
theorem q_ow0 : isOwn .no = false := rfl
theorem q_ow1 {d : D} : isOwn (.val d) = false := rfl
theorem q_ow2 {ds : List D} : isOwn (.own ds) = true := rfl
theorem q_ow3 {ds : List D} : isOwn (.par ds) = true := rfl
theorem q_c0 : ((0 : Nat) : Int) = 0 := rfl
theorem q_c1 : ((1 : Nat) : Int) = 1 := rfl
theorem q_c2 : ((2 : Nat) : Int) = 2 := rfl
theorem q_c3 : ((3 : Nat) : Int) = 3 := rfl
theorem q_c4 : ((4 : Nat) : Int) = 4 := rfl
theorem q_c5 : ((5 : Nat) : Int) = 5 := rfl
theorem q_c6 : ((6 : Nat) : Int) = 6 := rfl
theorem q_c7 : ((7 : Nat) : Int) = 7 := rfl
theorem q_c8 : ((8 : Nat) : Int) = 8 := rfl
theorem q_c9 : ((9 : Nat) : Int) = 9 := rfl
theorem q_c10 : ((10 : Nat) : Int) = 10 := rfl
theorem q_c11 : ((11 : Nat) : Int) = 11 := rfl
theorem q_c12 : ((12 : Nat) : Int) = 12 := rfl
section
variable {x y z : D}
theorem q_all0 : gAll [.list []] = some (.bool true) := rfl
theorem q_all1 {a : Bool} : gAll [.list [.bool a]] = some (.bool a) := by cases a <;> rfl
theorem q_all2 {a b : Bool} : gAll [.list [.bool a, .bool b]] = some (.bool (a && b)) := by cases a <;> cases b <;> rfl
theorem q_all3 {a b c : Bool} : gAll [.list [.bool a, .bool b, .bool c]] = some (.bool (a && (b && c))) := by cases a <;> cases b <;> cases c <;> rfl
theorem eqv_none : PyData.eqv x .none = isNone x := by cases x <;> rfl
theorem q_inN2 : gIn .none (.tuple [x, y]) = some (.bool (isNone x || isNone y)) := by
  have h : inOk [x, y] .none = true := decide_eq_true (by simp [PyData.depth])
  show (if inOk [x, y] .none = true then some (PyData.bool ([x, y].any fun y => PyData.eqv y .none)) else none) = _
  rw [if_pos h]
  simp only [List.any_cons, List.any_nil, eqv_none, Bool.or_false]
theorem q_inN0 : gIn .none (.tuple []) = some (.bool false) := by
  have h : inOk [] .none = true := decide_eq_true (by simp [PyData.depth])
  show (if inOk [] .none = true then some (PyData.bool (([] : List D).any fun y => PyData.eqv y .none)) else none) = _
  rw [if_pos h]
  rfl
theorem q_02a : gNotIn (.int 0) (.tuple [.int 0, .int 2]) = some (.bool false) := by kernel_rfl
theorem q_02b : gNotIn (.int 2) (.tuple [.int 0, .int 2]) = some (.bool false) := by kernel_rfl
end
end Ev
namespace Ev
open PySem PySem.Spec PyProof.Rows L2
/-! ## step by step -/
theorem seq_nx {f g : Fx Fl} {e e1 : En} {r : Option (Fl × En)} (h1 : f e = some (.nx, e1)) (h2 : g e1 = r) : sSeq f g e = r := by
  rw [x_seq, h1]; exact h2
theorem seq_rt {f g : Fx Fl} {e e1 : En} {r : R} (h1 : f e = some (.rt r, e1)) : sSeq f g e = some (.rt r, e1) := by
  rw [x_seq, h1]
theorem fn_rt {n : Nat} {b : Fx Fl} {avs : List AV} {r : R} {e : En} {o : List (List D)} (h : b (initE n avs) = some (.rt r, e)) (ho : outsOf avs 0 e = some o) : callFn n b avs = some (r, o) := by
  unfold callFn
  rw [h]
  show (outsOf avs 0 e).map _ = _
  rw [ho]; rfl
theorem fn_nx {n : Nat} {b : Fx Fl} {avs : List AV} {e : En} {o : List (List D)} (h : b (initE n avs) = some (.nx, e)) (ho : outsOf avs 0 e = some o) : callFn n b avs = some (.val .none, o) := by
  unfold callFn
  rw [h]
  show (outsOf avs 0 e).map _ = _
  rw [ho]; rfl
theorem for_nx {f : Fx (List D)} {g : Gf} {b : Fx Fl} {e e1 : En} {ds : List D} {r : Option (Fl × En)} (h1 : f e = some (ds, e1)) (h2 : forL g b ds e1 = r) : sFor f g b e = r := by
  rw [x_for, h1]; exact h2
/-! ## more rules -/
section
variable {env : En}
theorem x_iEnum {f : Fx D} : iEnum f env = (match f env with
    | some (d, e) => (match seqD d with
      | some ds => some (enumD 0 ds, e)
      | none => none)
    | none => none) := by
  unfold iEnum
  cases f env with
  | none => rfl
  | some p => obtain ⟨d, e⟩ := p; cases h : seqD d <;> simp [h]
theorem x_range3 {f g h : Fx D} : iRange3 f g h env = (match f env with
  | some (.int i, e) => (match g e with
    | some (.int j, e2) => (match h e2 with
      | some (.int c, e3) => if rg3Ok i j c = true ∧ 0 ≤ Builtin.Range.rangeSize i j c then some (rangeC i c (Builtin.Range.rangeSize i j c).toNat, e3) else none
      | _ => none)
    | _ => none)
  | _ => none) := rfl
theorem x_comp2 {it : Fx (List D)} {g : Gf} {c : Fx Bool} {it1 : Fx (List D)} {g1 : Gf} {c1 : Fx Bool} {f : Fx D} {vs vs1 : List Nat} : eComp2 it g c it1 g1 c1 f vs vs1 env = (match it env with
  | some (ds, e) => (match compL2 g c it1 g1 c1 f vs vs1 ds [] (wipeE e vs) with
    | some (r, e2) => some (.fresh r, e2)
    | none => none)
  | none => none) := by
  unfold eComp2
  cases it env with
  | none => rfl
  | some p => obtain ⟨ds, e⟩ := p; cases h : compL2 g c it1 g1 c1 f vs vs1 ds [] (wipeE e vs) <;> simp [h]
theorem x_compN0 {g : Gf} {c : Fx Bool} {it1 : Fx (List D)} {g1 : Gf} {c1 : Fx Bool} {f : Fx D} {vs vs1 : List Nat} {acc : List D} : compL2 g c it1 g1 c1 f vs vs1 [] acc env = some (acc, env) := rfl
theorem x_compN1 {g : Gf} {c : Fx Bool} {it1 : Fx (List D)} {g1 : Gf} {c1 : Fx Bool} {f : Fx D} {vs vs1 : List Nat} {acc : List D} {d : D} {ds : List D} : compL2 g c it1 g1 c1 f vs vs1 (d :: ds) acc env = (match g d env with
    | some e1 => (match c e1 with
      | some (true, e2) => (match it1 e2 with
        | some (ds1, e3) => (match compL g1 c1 f vs1 ds1 acc (wipeE e3 vs1) with
          | some (acc2, e4) => compL2 g c it1 g1 c1 f vs vs1 ds acc2 (wipeE e4 vs)
          | none => none)
        | none => none)
      | some (false, e2) => compL2 g c it1 g1 c1 f vs vs1 ds acc (wipeE e2 vs)
      | none => none)
    | none => none) := rfl
end
end Ev
namespace Ev
local macro_rules
  | `(tactic| simp! only [$as,*]) => `(tactic| simp only [↓x_var, ↓x_C, ↓x_op, ↓x_fz, ↓x_rV, ↓x_B, ↓x_chain, ↓x_tru, ↓x_notT, ↓x_andT, ↓x_orT, ↓x_and, ↓x_or, ↓x_not, ↓x_neg, ↓x_if, ↓x_aNil, ↓x_aVal, ↓x_aSlot, ↓x_aTmp, ↓x_aR, ↓x_call, ↓x_callK, ↓x_dNil, ↓x_dCons, ↓x_tup, ↓x_lst, ↓x_itemN, ↓x_ownItem, ↓x_lenN, ↓x_blt, ↓x_isi, ↓x_list, ↓x_rgL1, ↓x_rgL2, ↓x_iSeq, ↓x_iZip, ↓x_range1, ↓x_range2, ↓x_addR, ↓x_slice, ↓x_partN, ↓x_partS, ↓x_comp, ↓x_skip, ↓x_stuck, ↓x_break, ↓x_cont, ↓x_seq, ↓x_sIf, ↓x_sExpr, ↓x_ret, ↓x_retN, ↓x_move, ↓x_setRv, ↓x_setRf, ↓x_set, ↓x_gN, ↓x_gsNil, ↓x_gsCons, ↓x_gTup, ↓x_gIx, ↓x_setAt, ↓x_asg, ↓x_par, ↓x_sm0, ↓x_smV, ↓x_smF, ↓x_app, ↓x_for, ↓x_for0, ↓x_for1, ↓x_comp0, ↓x_comp1, ↓x_fn, ↓x_iEnum, ↓x_range3, ↓x_comp2, ↓x_compN0, ↓x_compN1, q_addI, q_addT, q_addL, q_subI, q_ltI, q_leI, q_gtI, q_geI, q_isN, q_isNotN, q_eqI, q_neI, q_eqB, q_eqT0, q_eqT1, q_neT0, q_neT1, q_eqL0, q_eqL1, q_neL0, q_neL1, q_int, q_abs, q_min2, q_max2, q_at0, q_at1, q_at2, q_at3, q_ix0, q_ix1, q_ix2, q_sz, q_iteS, q_iteT, q_iteR, q_iteV, q_iteBB, q_iteII, q_iteAnd, q_iteOr, q_iteNot, q_iteCon, q_pa0, q_pa1, q_pa2, q_pa3, q_ow0, q_ow1, q_ow2, q_ow3, q_c0, q_c1, q_c2, q_c3, q_c4, q_c5, q_c6, q_c7, q_c8, q_c9, q_c10, q_c11, q_c12, q_all0, q_all1, q_all2, q_all3, q_inN2, q_inN0, q_02a, q_02b, List.getElem?_cons_zero, List.getElem?_cons_succ, List.set_cons_zero, List.set_cons_succ, wipeE, initE, outsOf, toAv, slotsOf, putOuts, natNodup, List.map_cons, List.map_nil, List.cons_append, List.nil_append, List.append_nil, List.replicate, List.length_cons, List.length_nil, isNone, isiD, seqD, gItem, truD, zipOf, zipD, pick, List.contains_nil, List.contains_cons, eq_self, if_true, if_false, Bool.false_eq_true, Bool.true_eq_false, Bool.not_true, Bool.not_false, reduceIte, decide_true, decide_false, Nat.reduceAdd, Nat.reduceSub, Nat.zero_add, Nat.add_zero, and_self, true_and, and_true, Bool.and_true, Bool.true_and, Bool.or_false, Bool.false_or, Bool.or_true, Bool.true_or, Bool.and_false, Bool.false_and, Bool.or_self, Bool.and_self, Nat.sub_self, Option.map_some, Option.map_none, Nat.reduceBEq, Bool.not_eq_true, beq_self_eq_true, Nat.reduceLeDiff, Nat.reduceLT, Nat.reduceEqDiff, List.filterMap_cons, List.filterMap_nil, $as,*])
open PySem PySem.Spec PyProof.Rows L2
/-! ## loops -/
theorem compL_map {g : Gf} {c : Fx Bool} {f : Fx D} {vs : List Nat} {env : En} {p : D → Bool} {h : D → D} : ∀ (ds acc : List D), acc.length + ds.length ≤ sizeLine →
    (∀ d ∈ ds, ∃ e1 e2, g d env = some e1 ∧ c e1 = some (p d, e2) ∧ (p d = true → ∃ e3, f e2 = some (h d, e3) ∧ wipeE e3 vs = env) ∧ (p d = false → wipeE e2 vs = env)) →
    compL g c f vs ds acc env = some (acc ++ (ds.filter p).map h, env)
  | [], acc, _, _ => by simp only [x_comp0, List.filter_nil, List.map_nil, List.append_nil]
  | d :: ds, acc, hl, H => by
    obtain ⟨e1, e2, h1, h2, h3, h4⟩ := H d (List.mem_cons_self ..)
    have hl' : acc.length < sizeLine := by rw [List.length_cons] at hl; omega
    have ih := fun acc' (q : acc'.length + ds.length ≤ sizeLine) => compL_map (g := g) (c := c) (f := f) (vs := vs) (env := env) (p := p) (h := h) ds acc' q fun x hx => H x (List.mem_cons_of_mem _ hx)
    rw [x_comp1, h1]
    dsimp only
    rw [h2]
    dsimp only
    cases q : p d with
    | true =>
      obtain ⟨e3, h5, h6⟩ := h3 q
      rw [if_pos rfl, h5]
      dsimp only
      rw [if_pos hl', h6, ih _ (by rw [List.length_cons] at hl; rw [List.length_append, List.length_singleton]; omega), List.filter_cons_of_pos q, List.map_cons, List.append_assoc]
      rfl
    | false =>
      rw [if_neg (by decide), h4 q, ih _ (by rw [List.length_cons] at hl; omega), List.filter_cons_of_neg (by rw [q]; decide)]
theorem compL_all {g : Gf} {c : Fx Bool} {f : Fx D} {vs : List Nat} {env : En} {h : D → D} (ds acc : List D) (hl : acc.length + ds.length ≤ sizeLine)
    (H : ∀ d ∈ ds, ∃ e1 e2 e3, g d env = some e1 ∧ c e1 = some (true, e2) ∧ f e2 = some (h d, e3) ∧ wipeE e3 vs = env) : compL g c f vs ds acc env = some (acc ++ ds.map h, env) := by
  have := compL_map (p := fun _ => true) (h := h) ds acc hl fun d hd => by
    obtain ⟨e1, e2, e3, h1, h2, h3, h4⟩ := H d hd
    exact ⟨e1, e2, h1, h2, fun _ => ⟨e3, h3, h4⟩, fun z => by cases z⟩
  rw [List.filter_eq_self.mpr fun _ _ => rfl] at this
  exact this
theorem boolsOf_true : ∀ {ds : List D}, (∀ d ∈ ds, d = .bool true) → (boolsOf ds).map (fun bs => bs.all id) = some true
  | [], _ => rfl
  | d :: ds, h => by
    have e := h d (List.mem_cons_self ..)
    subst e
    have ih := boolsOf_true (ds := ds) fun x hx => h x (List.mem_cons_of_mem _ hx)
    cases q : boolsOf ds with
    | none => rw [q] at ih; cases ih
    | some bs =>
      rw [q] at ih
      show (boolsOf (.bool true :: ds)).map _ = _
      rw [show boolsOf (.bool true :: ds) = some (true :: bs) by simp [boolsOf, q]]
      exact ih
theorem gAll_true {ds : List D} (h : ∀ d ∈ ds, d = .bool true) : gAll [.list ds] = some (.bool true) := by
  have := boolsOf_true h
  show (boolsOf ds).map (fun bs => PyData.bool (bs.all id)) = _
  cases q : boolsOf ds with
  | none => rw [q] at this; cases this
  | some bs =>
    rw [q] at this
    have e : bs.all id = true := Option.some.inj this
    show some (PyData.bool (bs.all id)) = _
    rw [e]
theorem forL_inv {g : Gf} {b : Fx Fl} {I : En → Prop} : ∀ (ds : List D) (env : En), I env → (∀ d ∈ ds, ∀ e, I e → ∃ e1 e2, g d e = some e1 ∧ b e1 = some (.nx, e2) ∧ I e2) → ∃ e, forL g b ds env = some (.nx, e) ∧ I e
  | [], env, h, _ => ⟨env, rfl, h⟩
  | d :: ds, env, h, H => by
    obtain ⟨e1, e2, h1, h2, h3⟩ := H d (List.mem_cons_self ..) env h
    obtain ⟨e, h4, h5⟩ := forL_inv ds e2 h3 fun x hx => H x (List.mem_cons_of_mem _ hx)
    refine ⟨e, ?_, h5⟩
    rw [x_for1, h1]
    dsimp only
    rw [h2]
    exact h4
/-! ## the source of numbers -/
def Src (b : Nat) (ds : List D) : Prop := ∃ a m c : Int, ds = [.int a, .int m, .int c] ∧ 0 ≤ a ∧ 0 ≤ m ∧ m < 2147483629 ∧ 0 ≤ c ∧ c + b ≤ 1000000000
theorem Src.mono {b b' : Nat} {ds : List D} (h : Src b ds) (hb : b' ≤ b) : Src b' ds := by
  obtain ⟨a, m, c, e, h1, h2, h3, h4, h5⟩ := h
  exact ⟨a, m, c, e, h1, h2, h3, h4, by omega⟩
def takeC : Fx Fl := (sSeq (sIf (eB (eOp gGt (eItemN 0 (eC (.int 0))) (eC (.int 0)))) (sSeq (sAsg (eBlt gDivmod (dCons (eItemN 0 (eC (.int 0))) (dCons (eVar 1) dNil))) (gTup 2 (gsCons (gIx 0 (eC (.int 0))) (gsCons (gN 3) gsNil)))) (sRet (eMove 3))) sSkip) (sSeq (sAsg (eOp gAdd (eItemN 0 (eC (.int 2))) (eC (.int 1))) (gIx 0 (eC (.int 2)))) (sSeq (sSet 2 (rV (eOp gMod (eBlt gInt (dCons (eOp gAdd (eItemN 0 (eC (.int 1))) (eOp gMul (eC (.int 40093)) (eItemN 0 (eC (.int 2))))) dNil)) (eC (.int 2147483629))))) (sSeq (sAsg (eOp gMod (eBlt gInt (dCons (eOp gAdd (eOp gMul (eVar 2) (eOp gAdd (eOp gMod (eBlt gInt (dCons (eVar 2) dNil)) (eC (.int 4001))) (eC (.int 30029)))) (eOp gMul (eC (.int 17)) (eItemN 0 (eC (.int 2))))) dNil)) (eC (.int 2147483629))) (gIx 0 (eC (.int 1)))) (sRet (rV (eOp gMod (eBlt gInt (dCons (eOp gFdiv (eItemN 0 (eC (.int 1))) (eC (.int 523))) dNil)) (eVar 1))))))))
def Tk (g : Fn) : Prop := ∀ (b : Nat) (ds : List D) (k : Int), Src (b + 1) ds → 0 < k → k < 1073741824 → ∃ (v : Int) (ds' : List D), g [.own ds, .val (.int k)] = some (.val (.int v), [ds']) ∧ 0 ≤ v ∧ v < k ∧ Src b ds'
theorem take_ok : Tk (callFn 4 takeC) := by
  rintro b ds k ⟨a, m, c, rfl, ha, hm, hm2, hc, hcb⟩ hk hk2
  by_cases h0 : 0 < a
  · refine ⟨a % k, [.int (a / k), .int m, .int c], ?_, Int.emod_nonneg _ (by omega), Int.emod_lt_of_pos _ hk, a / k, m, c, rfl, Int.ediv_nonneg ha (by omega), hm, hm2, hc, by omega⟩
    simp! only [takeC, h0, decide_true, q_divmod hk hk2]
  · have e0 : a = 0 := by omega
    subst e0
    have b1 := Int.emod_nonneg (m + 40093 * (c + 1)) (b := 2147483629) (by omega)
    have b2 := Int.emod_lt_of_pos (m + 40093 * (c + 1)) (b := 2147483629) (by omega)
    have m1 : mulOk 40093 (c + 1) = true := mulOk_lt (a := 16) (b := 30) (by decide) (by omega) (by decide)
    have m2 : mulOk 17 (c + 1) = true := mulOk_lt (a := 5) (b := 30) (by decide) (by omega) (by decide)
    generalize hx : (m + 40093 * (c + 1)) % 2147483629 = x at b1 b2
    have b3 := Int.emod_nonneg x (b := 4001) (by omega)
    have b4 := Int.emod_lt_of_pos x (b := 4001) (by omega)
    have m3 : mulOk x (x % 4001 + 30029) = true := mulOk_lt (a := 32) (b := 32) (by omega) (by omega) (by decide)
    have b5 := Int.emod_nonneg (x * (x % 4001 + 30029) + 17 * (c + 1)) (b := 2147483629) (by omega)
    have b6 := Int.emod_lt_of_pos (x * (x % 4001 + 30029) + 17 * (c + 1)) (b := 2147483629) (by omega)
    refine ⟨((x * (x % 4001 + 30029) + 17 * (c + 1)) % 2147483629 / 523) % k, [.int 0, .int ((x * (x % 4001 + 30029) + 17 * (c + 1)) % 2147483629), .int (c + 1)], ?_, Int.emod_nonneg _ (by omega), Int.emod_lt_of_pos _ hk, 0, _, c + 1, rfl, by omega, b5, b6, by omega, by omega⟩
    simp! only [takeC, decide_false, q_mulI m1, q_mulI m2, q_mulI m3, hx, q_modI (y := 2147483629) (by decide), q_modI (y := 4001) (by decide), q_fdivI (y := 523) (by decide) (by decide), q_modI hk, Int.lt_irrefl]
def greatC (t : Fn) : Fx Fl := (sSeq (sSet 1 (rV (eC (.int 0)))) (sSeq (sFor (iRange1 (eC (.int 5))) (gN 2) (sSet 1 (rV (eOp gAdd (eOp gMul (eVar 1) (eC (.int 1000003))) (eFz (eCall t (aSlot 0 (aVal (eC (.int 1000003)) aNil)))))))) (sRet (eMove 1))))
def Nm (k : Nat) (z : Int) (g : Fn) : Prop := ∀ (b : Nat) (ds : List D), Src (b + k) ds → ∃ (v : Int) (ds' : List D), g [.own ds] = some (.val (.int v), [ds']) ∧ -z ≤ v ∧ v ≤ z ∧ Src b ds'
theorem range5 : rangeD 0 (5 - 0 : Int).toNat = [.int 0, .int 1, .int 2, .int 3, .int 4] := by rfl
def Gp (g : Fn) : Prop := ∀ (b : Nat) (ds : List D), Src (b + 5) ds → ∃ (v : Int) (ds' : List D), g [.own ds] = some (.val (.int v), [ds']) ∧ 0 ≤ v ∧ v ≤ 2 ^ 110 ∧ Src b ds'
theorem great_pos {t : Fn} (T : Tk t) : Gp (callFn 3 (greatC t)) := by
  intro b ds h
  obtain ⟨v1, d1, e1, p1, q1, s1⟩ := T _ ds 1000003 (h.mono (by omega : (b + 4) + 1 ≤ b + 5)) (by decide) (by decide)
  obtain ⟨v2, d2, e2, p2, q2, s2⟩ := T _ d1 1000003 (s1.mono (by omega : (b + 3) + 1 ≤ b + 4)) (by decide) (by decide)
  obtain ⟨v3, d3, e3, p3, q3, s3⟩ := T _ d2 1000003 (s2.mono (by omega : (b + 2) + 1 ≤ b + 3)) (by decide) (by decide)
  obtain ⟨v4, d4, e4, p4, q4, s4⟩ := T _ d3 1000003 (s3.mono (by omega : (b + 1) + 1 ≤ b + 2)) (by decide) (by decide)
  obtain ⟨v5, d5, e5, p5, q5, s5⟩ := T _ d4 1000003 (s4.mono (by omega : b + 1 ≤ b + 1)) (by decide) (by decide)
  have m1 : mulOk 0 1000003 = true := by decide +kernel
  have m2 : mulOk (0 * 1000003 + v1) 1000003 = true := mulOk_lt (a := 120) (b := 20) (by omega) (by decide) (by decide)
  have m3 : mulOk ((0 * 1000003 + v1) * 1000003 + v2) 1000003 = true := mulOk_lt (a := 120) (b := 20) (by omega) (by decide) (by decide)
  have m4 : mulOk (((0 * 1000003 + v1) * 1000003 + v2) * 1000003 + v3) 1000003 = true := mulOk_lt (a := 120) (b := 20) (by omega) (by decide) (by decide)
  have m5 : mulOk ((((0 * 1000003 + v1) * 1000003 + v2) * 1000003 + v3) * 1000003 + v4) 1000003 = true := mulOk_lt (a := 120) (b := 20) (by omega) (by decide) (by decide)
  refine ⟨((((0 * 1000003 + v1) * 1000003 + v2) * 1000003 + v3) * 1000003 + v4) * 1000003 + v5, d5, ?_, by omega, by omega, s5⟩
  simp! only [greatC, range5, e1, e2, e3, e4, e5, q_mulI m1, q_mulI m2, q_mulI m3, q_mulI m4, q_mulI m5]
theorem great_ok {t : Fn} (T : Tk t) : Nm 5 (2 ^ 110) (callFn 3 (greatC t)) := fun b ds h => by
  obtain ⟨v, d, e, h1, h2, h3⟩ := great_pos T b ds h
  exact ⟨v, d, e, by omega, h2, h3⟩
def numberC (t gr : Fn) : Fx Fl := (sSeq (sSet 1 (eCall t (aSlot 0 (aVal (eC (.int 16)) aNil)))) (sSeq (sIf (eB (eOp gLt (eVar 1) (eC (.int 8)))) (sRet (rV (eOp gSub (eFz (eCall t (aSlot 0 (aVal (eC (.int 13)) aNil)))) (eC (.int 6))))) sSkip) (sSeq (sIf (eB (eOp gLt (eVar 1) (eC (.int 13)))) (sRet (rV (eOp gSub (eFz (eCall t (aSlot 0 (aVal (eC (.int 121)) aNil)))) (eC (.int 60))))) sSkip) (sSeq (sIf (eB (eOp gLt (eVar 1) (eC (.int 15)))) (sRet (rV (eOp gSub (eFz (eCall t (aSlot 0 (aVal (eC (.int 200003)) aNil)))) (eC (.int 100001))))) sSkip) (sSeq (sSet 2 (eCall gr (aSlot 0 aNil))) (sRet (eIf (eB (eOp gEq (eFz (eCall t (aSlot 0 (aVal (eC (.int 2)) aNil)))) (eC (.int 0)))) (eMove 2) (rV (eOp gSub (eC (.int 0)) (eVar 2))))))))))
theorem number_ok {t gr : Fn} (T : Tk t) (G : Nm 5 (2 ^ 110) gr) : Nm 7 (2 ^ 110) (callFn 3 (numberC t gr)) := by
  intro b ds h
  obtain ⟨v1, d1, e1, p1, q1, s1⟩ := T _ ds 16 (h.mono (by omega : (b + 6) + 1 ≤ b + 7)) (by decide) (by decide)
  by_cases c1 : v1 < 8
  · obtain ⟨v2, d2, e2, p2, q2, s2⟩ := T _ d1 13 (s1.mono (by omega : (b + 5) + 1 ≤ b + 6)) (by decide) (by decide)
    refine ⟨v2 - 6, d2, ?_, by omega, by omega, s2.mono (by omega)⟩
    simp! only [numberC, e1, e2, c1, decide_true]
  by_cases c2 : v1 < 13
  · obtain ⟨v2, d2, e2, p2, q2, s2⟩ := T _ d1 121 (s1.mono (by omega : (b + 5) + 1 ≤ b + 6)) (by decide) (by decide)
    refine ⟨v2 - 60, d2, ?_, by omega, by omega, s2.mono (by omega)⟩
    simp! only [numberC, e1, e2, c1, c2, decide_true, decide_false]
  by_cases c3 : v1 < 15
  · obtain ⟨v2, d2, e2, p2, q2, s2⟩ := T _ d1 200003 (s1.mono (by omega : (b + 5) + 1 ≤ b + 6)) (by decide) (by decide)
    refine ⟨v2 - 100001, d2, ?_, by omega, by omega, s2.mono (by omega)⟩
    simp! only [numberC, e1, e2, c1, c2, c3, decide_true, decide_false]
  obtain ⟨v2, d2, e2, p2, q2, s2⟩ := G (b + 1) d1 (s1.mono (by omega))
  obtain ⟨v3, d3, e3, p3, q3, s3⟩ := T b d2 2 s2 (by decide) (by decide)
  by_cases c4 : v3 = 0
  · refine ⟨v2, d3, ?_, p2, q2, s3⟩
    simp! only [numberC, e1, e2, e3, c1, c2, c3, c4, decide_true, decide_false]
  · refine ⟨0 - v2, d3, ?_, by omega, by omega, s3⟩
    simp! only [numberC, e1, e2, e3, c1, c2, c3, c4, decide_true, decide_false]
def sourceC (p q : Int) : Fx Fl := (sSeq (sSet 2 (rV (eOp gAdd (eC (.int p)) (eOp gMul (eC (.int q)) (eVar 1))))) (sSeq (sFor (iSeq (eFz (eSlice (eVar 0) (ePart none) (ePart (some (eC (.int 10))))))) (gN 3) (sSet 2 (rV (eOp gMod (eBlt gInt (dCons (eOp gAdd (eOp gAdd (eOp gMul (eVar 2) (eC (.int 30011))) (eOp gMod (eBlt gInt (dCons (eVar 3) dNil)) (eC (.int 1000000007)))) (eC (.int 3))) dNil)) (eC (.int 2147483629)))))) (sSeq (sSet 4 (eIf (eB (eOp gLt (eVar 1) (eLenN 0))) (rV (eBlt gInt (dCons (eItemN 0 (eVar 1)) dNil))) (rV (eC (.int 0))))) (sSeq (sSet 2 (rV (eOp gMod (eBlt gInt (dCons (eOp gAdd (eOp gAdd (eOp gMul (eVar 2) (eC (.int 59))) (eOp gMul (eOp gMod (eBlt gInt (dCons (eVar 4) dNil)) (eC (.int 1000000007))) (eC (.int 15013)))) (eC (.int 11))) dNil)) (eC (.int 2147483629))))) (sRet (eLst (dCons (eIf (eOrT (eB (eOp gLt (eVar 4) (eC (.int 0)))) (eB (eOp gGe (eVar 4) (eOp gPow (eC (.int 10)) (eC (.int 15)))))) (eBlt gAbs (dCons (eVar 4) dNil)) (eC (.int 0))) (dCons (eVar 2) (dCons (eC (.int 0)) dNil)))))))))
theorem cut_ints {ns : List Int} {a b : Option Int} : ∃ ms : List Int, cutD (ns.map PyData.int) a b = ms.map PyData.int := by
  unfold cutD
  refine ⟨(ns.drop (HT.sIx (ns.map PyData.int).length 0 a)).take (HT.sIx (ns.map PyData.int).length (ns.map PyData.int).length b - HT.sIx (ns.map PyData.int).length 0 a), ?_⟩
  rw [List.map_take, List.map_drop]
theorem q_pow15 : gPow (.int 10) (.int 15) = some (.int 1000000000000000) := by kernel_rfl
theorem source_ok {p q : Int} (hp : 0 ≤ p ∧ p < 2 ^ 40) (hq : 0 ≤ q ∧ q < 2 ^ 40) (ns : List Int) (t : Int) (ht : 0 ≤ t) (ht2 : t < 64) : ∃ ds', callFn 5 (sourceC p q) [.val (.list (ns.map PyData.int)), .val (.int t)] = some (.fresh ds', []) ∧ Src 100000000 ds' := by
  obtain ⟨ms, hms⟩ := cut_ints (ns := ns) (a := none) (b := some 10)
  have m1 : mulOk q t = true := mulOk_lt (a := 40) (b := 7) (by omega) (by omega) (by decide)
  have hqt : 0 ≤ q * t := Int.mul_nonneg hq.1 ht
  have hqt2 : q * t ≤ 2 ^ 40 * 64 := Int.le_trans (Int.mul_le_mul_of_nonneg_right (Int.le_of_lt hq.2) ht) (Int.mul_le_mul_of_nonneg_left (by omega) (by decide))
  obtain ⟨e, he, m, oth, rfl, hm, hm2⟩ := forL_inv (g := gN 3) (b := (sSet 2 (rV (eOp gMod (eBlt gInt (dCons (eOp gAdd (eOp gAdd (eOp gMul (eVar 2) (eC (.int 30011))) (eOp gMod (eBlt gInt (dCons (eVar 3) dNil)) (eC (.int 1000000007)))) (eC (.int 3))) dNil)) (eC (.int 2147483629))))))
    (I := fun e => ∃ (m : Int) (o : Sl), e = [.val (.list (ns.map PyData.int)), .val (.int t), .val (.int m), o, .no] ∧ (o = .no ∨ ∃ d, o = .val d) ∧ 0 ≤ m ∧ m < 2 ^ 60) (ms.map PyData.int) [.val (.list (ns.map PyData.int)), .val (.int t), .val (.int (p + q * t)), .no, .no]
    ⟨_, .no, rfl, .inl rfl, by omega, by omega⟩ (by
      rintro d hd e ⟨m, o, rfl, ho, hm, hm2⟩
      obtain ⟨i, _, rfl⟩ := List.mem_map.mp hd
      have m2 : mulOk m 30011 = true := mulOk_lt (a := 60) (b := 15) (by omega) (by decide) (by decide)
      refine ⟨[.val (.list (ns.map PyData.int)), .val (.int t), .val (.int m), .val (.int i), .no], _, ?_, ?_, ⟨(m * 30011 + i % 1000000007 + 3) % 2147483629, .val (.int i), rfl, .inr ⟨_, rfl⟩, Int.emod_nonneg _ (by omega), ?_⟩⟩
      · rcases ho with rfl | ⟨d, rfl⟩ <;> simp! only [x_C]
      · simp! only [q_mulI m2, q_modI (y := 2147483629) (by decide), q_modI (y := 1000000007) (by decide)]
      · have := Int.emod_lt_of_pos (m * 30011 + i % 1000000007 + 3) (b := 2147483629) (by omega)
        omega)
  obtain ⟨own, hown⟩ : ∃ own : Int, (t < (ns.map PyData.int).length ∧ atI (ns.map PyData.int) t = some (.int own)) ∨ (¬ t < (ns.map PyData.int).length ∧ own = 0) := by
    by_cases c : t < (ns.map PyData.int).length
    · have hi : t.toNat < ns.length := by rw [List.length_map] at c; omega
      refine ⟨ns[t.toNat], .inl ⟨c, ?_⟩⟩
      unfold atI
      rw [q_ixN ht c]
      show (ns.map PyData.int)[t.toNat]? = _
      rw [List.getElem?_map, List.getElem?_eq_getElem hi]
      rfl
    · exact ⟨0, .inr ⟨c, rfl⟩⟩
  have m3 : mulOk m 59 = true := mulOk_lt (a := 60) (b := 6) (by omega) (by decide) (by decide)
  have b1 := Int.emod_nonneg own (b := 1000000007) (by omega)
  have b2 := Int.emod_lt_of_pos own (b := 1000000007) (by omega)
  have m4 : mulOk (own % 1000000007) 15013 = true := mulOk_lt (a := 30) (b := 14) (by omega) (by decide) (by decide)
  have b3 := Int.emod_nonneg (m * 59 + own % 1000000007 * 15013 + 11) (b := 2147483629) (by omega)
  have b4 := Int.emod_lt_of_pos (m * 59 + own % 1000000007 * 15013 + 11) (b := 2147483629) (by omega)
  have fin : ∀ a : Int, 0 ≤ a → Src 100000000 [.int a, .int ((m * 59 + own % 1000000007 * 15013 + 11) % 2147483629), .int 0] := fun a ha => ⟨a, _, 0, rfl, ha, b3, b4, by omega, by omega⟩
  by_cases c1 : own < 0
  · refine ⟨_, ?_, fin (-own) (by omega)⟩
    rcases hown with ⟨c, ea⟩ | ⟨c, rfl⟩
    · simp! only [sourceC, hms, q_mulI m1, he, q_mulI m3, q_mulI m4, q_modI (y := 2147483629) (by decide), q_modI (y := 1000000007) (by decide), q_pow15, c1, c, ea]
    · simp! only [sourceC, hms, q_mulI m1, he, q_mulI m3, q_mulI m4, q_modI (y := 2147483629) (by decide), q_modI (y := 1000000007) (by decide), q_pow15, c1, c]
  by_cases c2 : 1000000000000000 ≤ own
  · refine ⟨_, ?_, fin own (by omega)⟩
    rcases hown with ⟨c, ea⟩ | ⟨c, rfl⟩
    · simp! only [sourceC, hms, q_mulI m1, he, q_mulI m3, q_mulI m4, q_modI (y := 2147483629) (by decide), q_modI (y := 1000000007) (by decide), q_pow15, c1, c2, c, ea]
    · simp! only [sourceC, hms, q_mulI m1, he, q_mulI m3, q_mulI m4, q_modI (y := 2147483629) (by decide), q_modI (y := 1000000007) (by decide), q_pow15, c1, c2, c]
  · refine ⟨_, ?_, fin 0 (by omega)⟩
    rcases hown with ⟨c, ea⟩ | ⟨c, rfl⟩
    · simp! only [sourceC, hms, q_mulI m1, he, q_mulI m3, q_mulI m4, q_modI (y := 2147483629) (by decide), q_modI (y := 1000000007) (by decide), q_pow15, c1, c2, c, ea]
    · simp! only [sourceC, hms, q_mulI m1, he, q_mulI m3, q_mulI m4, q_modI (y := 2147483629) (by decide), q_modI (y := 1000000007) (by decide), q_pow15, c1, c2, c]
end Ev
namespace Ev
open PySem PySem.Spec PyProof.Rows L2
abbrev wfl : Nat := 30000
def k_is_whole_b : Fx Fl := (sRet (rV (eAnd (eIsi "int" (eVar 0)) (eNot (eIsi "bool" (eVar 0))))))
def k_is_whole : Fn := callFn 1 (k_is_whole_b)
def k_is_end_b (f_is_whole : Fn) : Fx Fl := (sRet (rV (eOr (eOp gIs (eVar 0) (eC .none)) (eFz (eCall f_is_whole (aVal (eVar 0) aNil))))))
def k_is_end (f_is_whole : Fn) : Fn := callFn 1 (k_is_end_b f_is_whole)
def k_is_stretched_b (f_is_end : Fn) : Fx Fl := (sSeq (sIf (eOrT (eNotT (eTru (eIsi "tuple" (eVar 0)))) (eOrT (eB (eOp gNotIn (eLenN 0) (eTup (dCons (eC (.int 0)) (dCons (eC (.int 2)) dNil))))) (eNotT (eTru (eBlt gAll (dCons (eFz (eComp (iSeq (eVar 0)) (gN 1) (fun env => some (true, env)) (eFz (eCall f_is_end (aVal (eVar 1) aNil))) [1])) dNil)))))) (sRet (rV (eC (.bool false)))) sSkip) (sRet (rV (eOr (eOp gIn (eC .none) (eVar 0)) (eOr (eOp gEq (eVar 0) (eC (.tuple []))) (eOp gLe (eItemN 0 (eC (.int 0))) (eItemN 0 (eC (.int 1)))))))))
def k_is_stretched (f_is_end : Fn) : Fn := callFn 2 (k_is_stretched_b f_is_end)
def k_is_held_b : Fx Fl := (sSeq (sIf (eB (eOp gEq (eVar 0) (eC (.tuple [])))) (sRet (rV (eC (.bool false)))) sSkip) (sRet (rV (eAnd (eOr (eOp gIs (eItemN 0 (eC (.int 0))) (eC .none)) (eOp gLe (eItemN 0 (eC (.int 0))) (eVar 1))) (eOr (eOp gIs (eItemN 0 (eC (.int 1))) (eC .none)) (eOp gLe (eVar 1) (eItemN 0 (eC (.int 1)))))))))
def k_is_held : Fn := callFn 2 (k_is_held_b)
def k_is_low_within_b : Fx Fl := (sRet (rV (eOr (eOp gIs (eVar 1) (eC .none)) (eAnd (eOp gIsNot (eVar 0) (eC .none)) (eOp gLe (eVar 1) (eVar 0))))))
def k_is_low_within : Fn := callFn 2 (k_is_low_within_b)
def k_is_high_within_b : Fx Fl := (sRet (rV (eOr (eOp gIs (eVar 1) (eC .none)) (eAnd (eOp gIsNot (eVar 0) (eC .none)) (eOp gLe (eVar 0) (eVar 1))))))
def k_is_high_within : Fn := callFn 2 (k_is_high_within_b)
def k_is_stretch_within_b (f_is_low_within f_is_high_within : Fn) : Fx Fl := (sSeq (sIf (eOrT (eB (eOp gEq (eVar 0) (eC (.tuple [])))) (eB (eOp gEq (eVar 1) (eC (.tuple []))))) (sRet (rV (eOp gEq (eVar 0) (eC (.tuple []))))) sSkip) (sRet (rV (eAnd (eFz (eCall f_is_low_within (aVal (eItemN 0 (eC (.int 0))) (aVal (eItemN 1 (eC (.int 0))) aNil)))) (eFz (eCall f_is_high_within (aVal (eItemN 0 (eC (.int 1))) (aVal (eItemN 1 (eC (.int 1))) aNil))))))))
def k_is_stretch_within (f_is_low_within f_is_high_within : Fn) : Fn := callFn 2 (k_is_stretch_within_b f_is_low_within f_is_high_within)
def k_joined_stretch_b (f_is_low_within f_is_high_within : Fn) : Fx Fl := (sSeq (sIf (eOrT (eB (eOp gEq (eVar 0) (eC (.tuple [])))) (eB (eOp gEq (eVar 1) (eC (.tuple []))))) (sRet (eIf (eB (eOp gEq (eVar 1) (eC (.tuple [])))) (eMove 0) (eMove 1))) sSkip) (sSeq (sSet 2 (eIf (eTru (eFz (eCall f_is_low_within (aVal (eItemN 0 (eC (.int 0))) (aVal (eItemN 1 (eC (.int 0))) aNil))))) (rV (eItemN 1 (eC (.int 0)))) (rV (eItemN 0 (eC (.int 0)))))) (sSeq (sSet 3 (eIf (eTru (eFz (eCall f_is_high_within (aVal (eItemN 0 (eC (.int 1))) (aVal (eItemN 1 (eC (.int 1))) aNil))))) (rV (eItemN 1 (eC (.int 1)))) (rV (eItemN 0 (eC (.int 1)))))) (sRet (rV (eTup (dCons (eVar 2) (dCons (eVar 3) dNil))))))))
def k_joined_stretch (f_is_low_within f_is_high_within : Fn) : Fn := callFn 4 (k_joined_stretch_b f_is_low_within f_is_high_within)
def k_met_stretch_b (f_is_low_within f_is_high_within : Fn) : Fx Fl := (sSeq (sIf (eOrT (eB (eOp gEq (eVar 0) (eC (.tuple [])))) (eB (eOp gEq (eVar 1) (eC (.tuple []))))) (sRet (rV (eC (.tuple [])))) sSkip) (sSeq (sSet 2 (eIf (eTru (eFz (eCall f_is_low_within (aVal (eItemN 0 (eC (.int 0))) (aVal (eItemN 1 (eC (.int 0))) aNil))))) (rV (eItemN 0 (eC (.int 0)))) (rV (eItemN 1 (eC (.int 0)))))) (sSeq (sSet 3 (eIf (eTru (eFz (eCall f_is_high_within (aVal (eItemN 0 (eC (.int 1))) (aVal (eItemN 1 (eC (.int 1))) aNil))))) (rV (eItemN 0 (eC (.int 1)))) (rV (eItemN 1 (eC (.int 1)))))) (sRet (eIf (eOrT (eB (eOp gIs (eVar 2) (eC .none))) (eOrT (eB (eOp gIs (eVar 3) (eC .none))) (eB (eOp gLe (eVar 2) (eVar 3))))) (rV (eTup (dCons (eVar 2) (dCons (eVar 3) dNil)))) (rV (eC (.tuple []))))))))
def k_met_stretch (f_is_low_within f_is_high_within : Fn) : Fn := callFn 4 (k_met_stretch_b f_is_low_within f_is_high_within)
def k_check_stretch_b (f_is_stretched : Fn) : Fx Fl := (sIf (eNotT (eTru (eFz (eCall f_is_stretched (aVal (eVar 0) aNil))))) sStuck sSkip)
def k_check_stretch (f_is_stretched : Fn) : Fn := callFn 1 (k_check_stretch_b f_is_stretched)
def k_check_stretches_b (f_check_stretch : Fn) : Fx Fl := (sSeq (sExpr (eCall f_check_stretch (aVal (eVar 0) aNil))) (sExpr (eCall f_check_stretch (aVal (eVar 1) aNil))))
def k_check_stretches (f_check_stretch : Fn) : Fn := callFn 2 (k_check_stretches_b f_check_stretch)
def k_check_whole_b (f_is_whole : Fn) : Fx Fl := (sIf (eNotT (eTru (eFz (eCall f_is_whole (aVal (eVar 0) aNil))))) sStuck sSkip)
def k_check_whole (f_is_whole : Fn) : Fn := callFn 1 (k_check_whole_b f_is_whole)
def k_stretch_holds_b (f_is_held f_check_stretch f_check_whole : Fn) : Fx Fl := (sSeq (sExpr (eCall f_check_stretch (aVal (eVar 0) aNil))) (sSeq (sExpr (eCall f_check_whole (aVal (eVar 1) aNil))) (sRet (eCall f_is_held (aVal (eVar 0) (aVal (eVar 1) aNil))))))
def k_stretch_holds (f_is_held f_check_stretch f_check_whole : Fn) : Fn := callFn 2 (k_stretch_holds_b f_is_held f_check_stretch f_check_whole)
def k_stretch_within_b (f_is_stretch_within f_check_stretches : Fn) : Fx Fl := (sSeq (sExpr (eCall f_check_stretches (aVal (eVar 0) (aVal (eVar 1) aNil)))) (sRet (eCall f_is_stretch_within (aVal (eVar 0) (aVal (eVar 1) aNil)))))
def k_stretch_within (f_is_stretch_within f_check_stretches : Fn) : Fn := callFn 2 (k_stretch_within_b f_is_stretch_within f_check_stretches)
def k_stretch_joined_b (f_joined_stretch f_check_stretches : Fn) : Fx Fl := (sSeq (sExpr (eCall f_check_stretches (aVal (eVar 0) (aVal (eVar 1) aNil)))) (sRet (eCall f_joined_stretch (aVal (eVar 0) (aVal (eVar 1) aNil)))))
def k_stretch_joined (f_joined_stretch f_check_stretches : Fn) : Fn := callFn 2 (k_stretch_joined_b f_joined_stretch f_check_stretches)
def k_stretch_met_b (f_met_stretch f_check_stretches : Fn) : Fx Fl := (sSeq (sExpr (eCall f_check_stretches (aVal (eVar 0) (aVal (eVar 1) aNil)))) (sRet (eCall f_met_stretch (aVal (eVar 0) (aVal (eVar 1) aNil)))))
def k_stretch_met (f_met_stretch f_check_stretches : Fn) : Fn := callFn 2 (k_stretch_met_b f_met_stretch f_check_stretches)
def k__law_take_b : Fx Fl := (sSeq (sIf (eB (eOp gGt (eItemN 0 (eC (.int 0))) (eC (.int 0)))) (sSeq (sAsg (eBlt gDivmod (dCons (eItemN 0 (eC (.int 0))) (dCons (eVar 1) dNil))) (gTup 2 (gsCons (gIx 0 (eC (.int 0))) (gsCons (gN 3) gsNil)))) (sRet (eMove 3))) sSkip) (sSeq (sAsg (eOp gAdd (eItemN 0 (eC (.int 2))) (eC (.int 1))) (gIx 0 (eC (.int 2)))) (sSeq (sSet 2 (rV (eOp gMod (eBlt gInt (dCons (eOp gAdd (eItemN 0 (eC (.int 1))) (eOp gMul (eC (.int 40093)) (eItemN 0 (eC (.int 2))))) dNil)) (eC (.int 2147483629))))) (sSeq (sAsg (eOp gMod (eBlt gInt (dCons (eOp gAdd (eOp gMul (eVar 2) (eOp gAdd (eOp gMod (eBlt gInt (dCons (eVar 2) dNil)) (eC (.int 4001))) (eC (.int 30029)))) (eOp gMul (eC (.int 17)) (eItemN 0 (eC (.int 2))))) dNil)) (eC (.int 2147483629))) (gIx 0 (eC (.int 1)))) (sRet (rV (eOp gMod (eBlt gInt (dCons (eOp gFdiv (eItemN 0 (eC (.int 1))) (eC (.int 523))) dNil)) (eVar 1))))))))
def k__law_take : Fn := callFn 4 (k__law_take_b)
def k__law_pick_b (f__law_take : Fn) : Fx Fl := (sRet (rV (eItemN 1 (eFz (eCall f__law_take (aSlot 0 (aVal (eLenN 1) aNil)))))))
def k__law_pick (f__law_take : Fn) : Fn := callFn 2 (k__law_pick_b f__law_take)
def k__law_great_l1 (f__law_take : Fn) : Fx Fl := (sSet 1 (rV (eOp gAdd (eOp gMul (eVar 1) (eC (.int 1000003))) (eFz (eCall f__law_take (aSlot 0 (aVal (eC (.int 1000003)) aNil)))))))
def k__law_great_b (f__law_take : Fn) : Fx Fl := (sSeq (sSet 1 (rV (eC (.int 0)))) (sSeq (sFor (iRange1 (eC (.int 5))) (gN 2) (k__law_great_l1 f__law_take)) (sRet (eMove 1))))
def k__law_great (f__law_take : Fn) : Fn := callFn 3 (k__law_great_b f__law_take)
def k__law_number_b (f__law_take f__law_great : Fn) : Fx Fl := (sSeq (sSet 1 (eCall f__law_take (aSlot 0 (aVal (eC (.int 16)) aNil)))) (sSeq (sIf (eB (eOp gLt (eVar 1) (eC (.int 8)))) (sRet (rV (eOp gSub (eFz (eCall f__law_take (aSlot 0 (aVal (eC (.int 13)) aNil)))) (eC (.int 6))))) sSkip) (sSeq (sIf (eB (eOp gLt (eVar 1) (eC (.int 13)))) (sRet (rV (eOp gSub (eFz (eCall f__law_take (aSlot 0 (aVal (eC (.int 121)) aNil)))) (eC (.int 60))))) sSkip) (sSeq (sIf (eB (eOp gLt (eVar 1) (eC (.int 15)))) (sRet (rV (eOp gSub (eFz (eCall f__law_take (aSlot 0 (aVal (eC (.int 200003)) aNil)))) (eC (.int 100001))))) sSkip) (sSeq (sSet 2 (eCall f__law_great (aSlot 0 aNil))) (sRet (eIf (eB (eOp gEq (eFz (eCall f__law_take (aSlot 0 (aVal (eC (.int 2)) aNil)))) (eC (.int 0)))) (eMove 2) (rV (eOp gSub (eC (.int 0)) (eVar 2))))))))))
def k__law_number (f__law_take f__law_great : Fn) : Fn := callFn 3 (k__law_number_b f__law_take f__law_great)
def k__law_stretch_b (f__law_take f__law_number : Fn) : Fx Fl := (sSeq (sSet 1 (eCall f__law_take (aSlot 0 (aVal (eC (.int 14)) aNil)))) (sSeq (sIf (eB (eOp gLt (eVar 1) (eC (.int 2)))) (sRet (eIf (eB (eOp gEq (eVar 1) (eC (.int 0)))) (rV (eTup dNil)) (rV (eTup (dCons (eC .none) (dCons (eC .none) dNil)))))) sSkip) (sSeq (sSet 2 (eCall f__law_number (aSlot 0 aNil))) (sSeq (sIf (eB (eOp gLt (eVar 1) (eC (.int 6)))) (sRet (eIf (eB (eOp gLt (eVar 1) (eC (.int 4)))) (rV (eTup (dCons (eC .none) (dCons (eVar 2) dNil)))) (rV (eTup (dCons (eVar 2) (dCons (eC .none) dNil)))))) sSkip) (sSeq (sIf (eB (eOp gEq (eVar 1) (eC (.int 6)))) (sRet (rV (eTup (dCons (eVar 2) (dCons (eVar 2) dNil))))) sSkip) (sRet (rV (eTup (dCons (eVar 2) (dCons (eOp gAdd (eVar 2) (eFz (eCall f__law_take (aSlot 0 (aVal (eIf (eB (eOp gLt (eVar 1) (eC (.int 12)))) (eC (.int 12)) (eC (.int 100003))) aNil))))) dNil))))))))))
def k__law_stretch (f__law_take f__law_number : Fn) : Fn := callFn 3 (k__law_stretch_b f__law_take f__law_number)
def k__law_near_b (f__law_take f__law_pick f__law_stretch : Fn) : Fx Fl := (sSeq (sSet 2 (eComp (iSeq (eVar 1)) (gN 6) (eB (eOp gIsNot (eVar 6) (eC .none))) (eVar 6) [6])) (sSeq (sIf (eOrT (eB (eOp gEq (eVar 2) (eFz (eLst dNil)))) (eB (eOp gEq (eFz (eCall f__law_take (aSlot 0 (aVal (eC (.int 4)) aNil)))) (eC (.int 0))))) (sRet (eCall f__law_stretch (aSlot 0 aNil))) sSkip) (sSeq (sSet 3 (rV (eOp gSub (eOp gAdd (eFz (eCall f__law_pick (aSlot 0 (aVal (eVar 2) aNil)))) (eFz (eCall f__law_take (aSlot 0 (aVal (eC (.int 5)) aNil))))) (eC (.int 2))))) (sSeq (sSet 4 (eCall f__law_take (aSlot 0 (aVal (eC (.int 7)) aNil)))) (sSeq (sIf (eB (eOp gLt (eVar 4) (eC (.int 2)))) (sRet (eIf (eB (eOp gEq (eVar 4) (eC (.int 0)))) (rV (eTup (dCons (eC .none) (dCons (eVar 3) dNil)))) (rV (eTup (dCons (eVar 3) (dCons (eC .none) dNil)))))) sSkip) (sSeq (sSet 5 (eIf (eB (eOp gLt (eVar 4) (eC (.int 6)))) (rV (eOp gSub (eOp gAdd (eFz (eCall f__law_pick (aSlot 0 (aVal (eVar 2) aNil)))) (eFz (eCall f__law_take (aSlot 0 (aVal (eC (.int 5)) aNil))))) (eC (.int 2)))) (eMove 3))) (sRet (rV (eTup (dCons (eBlt gMin (dCons (eVar 3) (dCons (eVar 5) dNil))) (dCons (eBlt gMax (dCons (eVar 3) (dCons (eVar 5) dNil))) dNil)))))))))))
def k__law_near (f__law_take f__law_pick f__law_stretch : Fn) : Fn := callFn 7 (k__law_near_b f__law_take f__law_pick f__law_stretch)
def k__law_is_whole_b : Fx Fl := (sRet (rV (eAnd (eIsi "int" (eVar 0)) (eNot (eIsi "bool" (eVar 0))))))
def k__law_is_whole : Fn := callFn 1 (k__law_is_whole_b)
def k__law_same_b (f__law_is_whole f__law_same : Fn) : Fx Fl := (sSeq (sIf (eTru (eIsi "tuple" (eVar 1))) (sSeq (sIf (eOrT (eNotT (eTru (eIsi "tuple" (eVar 0)))) (eB (eOp gNe (eLenN 0) (eLenN 1)))) (sRet (rV (eC (.bool false)))) sSkip) (sRet (rV (eBlt gAll (dCons (eFz (eComp (iZip (dCons (eVar 0) (dCons (eVar 1) dNil))) (gTup 2 (gsCons (gN 2) (gsCons (gN 3) gsNil))) (fun env => some (true, env)) (eFz (eCall f__law_same (aVal (eVar 2) (aVal (eVar 3) aNil)))) [2, 3])) dNil))))) sSkip) (sSeq (sIf (eOrT (eB (eOp gIs (eVar 1) (eC .none))) (eB (eOp gIs (eVar 0) (eC .none)))) (sRet (rV (eAnd (eOp gIs (eVar 1) (eC .none)) (eOp gIs (eVar 0) (eC .none))))) sSkip) (sSeq (sIf (eOrT (eTru (eIsi "bool" (eVar 1))) (eTru (eIsi "bool" (eVar 0)))) (sRet (rV (eAnd (eIsi "bool" (eVar 1)) (eAnd (eIsi "bool" (eVar 0)) (eOp gEq (eVar 0) (eVar 1)))))) sSkip) (sRet (rV (eAnd (eFz (eCall f__law_is_whole (aVal (eVar 0) aNil))) (eOp gEq (eVar 0) (eVar 1))))))))
def k__law_same (f__law_is_whole f__law_same : Fn) : Fn := callFn 4 (k__law_same_b f__law_is_whole f__law_same)
def k__law_has_b : Fx Fl := (sRet (rV (eAnd (eOp gNe (eVar 0) (eTup dNil)) (eAnd (eOr (eOp gIs (eItemN 0 (eC (.int 0))) (eC .none)) (eOp gLe (eItemN 0 (eC (.int 0))) (eVar 1))) (eOr (eOp gIs (eItemN 0 (eC (.int 1))) (eC .none)) (eOp gLe (eVar 1) (eItemN 0 (eC (.int 1)))))))))
def k__law_has : Fn := callFn 2 (k__law_has_b)
def k__law_inside_b : Fx Fl := (sSeq (sIf (eOrT (eB (eOp gEq (eVar 0) (eTup dNil))) (eB (eOp gEq (eVar 1) (eTup dNil)))) (sRet (rV (eOp gEq (eVar 0) (eTup dNil)))) sSkip) (sSeq (sSet 2 (rV (eOr (eOp gIs (eItemN 1 (eC (.int 0))) (eC .none)) (eAnd (eOp gIsNot (eItemN 0 (eC (.int 0))) (eC .none)) (eOp gLe (eItemN 1 (eC (.int 0))) (eItemN 0 (eC (.int 0)))))))) (sRet (rV (eAnd (eVar 2) (eOr (eOp gIs (eItemN 1 (eC (.int 1))) (eC .none)) (eAnd (eOp gIsNot (eItemN 0 (eC (.int 1))) (eC .none)) (eOp gLe (eItemN 0 (eC (.int 1))) (eItemN 1 (eC (.int 1)))))))))))
def k__law_inside : Fn := callFn 3 (k__law_inside_b)
def k__law_join_b : Fx Fl := (sSeq (sIf (eOrT (eB (eOp gEq (eVar 0) (eTup dNil))) (eB (eOp gEq (eVar 1) (eTup dNil)))) (sRet (eIf (eB (eOp gEq (eVar 0) (eTup dNil))) (eMove 1) (eMove 0))) sSkip) (sSeq (sSet 2 (eIf (eOrT (eB (eOp gIs (eItemN 0 (eC (.int 0))) (eC .none))) (eB (eOp gIs (eItemN 1 (eC (.int 0))) (eC .none)))) (rV (eC .none)) (rV (eBlt gMin (dCons (eItemN 0 (eC (.int 0))) (dCons (eItemN 1 (eC (.int 0))) dNil)))))) (sRet (rV (eTup (dCons (eVar 2) (dCons (eIf (eOrT (eB (eOp gIs (eItemN 0 (eC (.int 1))) (eC .none))) (eB (eOp gIs (eItemN 1 (eC (.int 1))) (eC .none)))) (eC .none) (eBlt gMax (dCons (eItemN 0 (eC (.int 1))) (dCons (eItemN 1 (eC (.int 1))) dNil)))) dNil)))))))
def k__law_join : Fn := callFn 3 (k__law_join_b)
def k__law_meet_b : Fx Fl := (sSeq (sIf (eOrT (eB (eOp gEq (eVar 0) (eTup dNil))) (eB (eOp gEq (eVar 1) (eTup dNil)))) (sRet (rV (eTup dNil))) sSkip) (sSeq (sSet 2 (eComp (iSeq (eTup (dCons (eItemN 0 (eC (.int 0))) (dCons (eItemN 1 (eC (.int 0))) dNil)))) (gN 4) (eB (eOp gIsNot (eVar 4) (eC .none))) (eVar 4) [4])) (sSeq (sSet 3 (eComp (iSeq (eTup (dCons (eItemN 0 (eC (.int 1))) (dCons (eItemN 1 (eC (.int 1))) dNil)))) (gN 4) (eB (eOp gIsNot (eVar 4) (eC .none))) (eVar 4) [4])) (sSeq (sIf (eAndT (eB (eOp gNe (eVar 2) (eFz (eLst dNil)))) (eAndT (eB (eOp gNe (eVar 3) (eFz (eLst dNil)))) (eB (eOp gGt (eBlt gMax (dCons (eVar 2) dNil)) (eBlt gMin (dCons (eVar 3) dNil)))))) (sRet (rV (eTup dNil))) sSkip) (sRet (rV (eTup (dCons (eIf (eB (eOp gNe (eVar 2) (eFz (eLst dNil)))) (eBlt gMax (dCons (eVar 2) dNil)) (eC .none)) (dCons (eIf (eB (eOp gNe (eVar 3) (eFz (eLst dNil)))) (eBlt gMin (dCons (eVar 3) dNil)) (eC .none)) dNil)))))))))
def k__law_meet : Fn := callFn 5 (k__law_meet_b)
def k__law_beside_b : Fx Fl := (sSeq (sSet 1 (eLst (dCons (eC (.int 0)) dNil))) (sSeq (sFor (iSeq (eVar 0)) (gN 2) (sIf (eB (eOp gIsNot (eVar 2) (eC .none))) (sSet 1 (rV (eOp gAdd (eVar 1) (eFz (eLst (dCons (eOp gSub (eVar 2) (eC (.int 1))) (dCons (eVar 2) (dCons (eOp gAdd (eVar 2) (eC (.int 1))) dNil)))))))) sSkip)) (sRet (eMove 1))))
def k__law_beside : Fn := callFn 3 (k__law_beside_b)
def k__law_two_right_b (f_stretch_within f_stretch_joined f_stretch_met f__law_same f__law_inside f__law_join f__law_meet : Fn) : Fx Fl := (sSeq (sSet 2 (rV (eTup (dCons (eFz (eCall f__law_inside (aVal (eVar 0) (aVal (eVar 1) aNil)))) (dCons (eFz (eCall f__law_join (aVal (eVar 0) (aVal (eVar 1) aNil)))) (dCons (eFz (eCall f__law_meet (aVal (eVar 0) (aVal (eVar 1) aNil)))) dNil)))))) (sSeq (sIf (eNotT (eTru (eFz (eCall f__law_same (aVal (eTup (dCons (eFz (eCall f_stretch_within (aVal (eVar 0) (aVal (eVar 1) aNil)))) (dCons (eFz (eCall f_stretch_joined (aVal (eVar 0) (aVal (eVar 1) aNil)))) (dCons (eFz (eCall f_stretch_met (aVal (eVar 0) (aVal (eVar 1) aNil)))) dNil)))) (aVal (eVar 2) aNil)))))) (sRet (rV (eC (.bool false)))) sSkip) (sSeq (sSet 3 (rV (eTup (dCons (eFz (eCallK f_stretch_within 0 2 [1, 0] dNil (dCons (eVar 1) (dCons (eVar 0) dNil)))) (dCons (eFz (eCallK f_stretch_joined 0 2 [1, 0] dNil (dCons (eVar 1) (dCons (eVar 0) dNil)))) dNil))))) (sRet (eCall f__law_same (aVal (eOp gAdd (eVar 3) (eTup (dCons (eFz (eCallK f_stretch_met 0 2 [1, 0] dNil (dCons (eVar 1) (dCons (eVar 0) dNil)))) dNil))) (aVal (eVar 2) aNil)))))))
def k__law_two_right (f_stretch_within f_stretch_joined f_stretch_met f__law_same f__law_inside f__law_join f__law_meet : Fn) : Fn := callFn 4 (k__law_two_right_b f_stretch_within f_stretch_joined f_stretch_met f__law_same f__law_inside f__law_join f__law_meet)
def k__law_three_right_b (f_stretch_within f_stretch_joined f_stretch_met f__law_same f__law_inside f__law_join f__law_meet : Fn) : Fx Fl := (sSeq (sPar [4, 5] (aR (eCall f_stretch_joined (aVal (eVar 0) (aVal (eVar 1) aNil))) (aR (eCall f_stretch_met (aVal (eVar 0) (aVal (eVar 1) aNil))) aNil))) (sSeq (sSet 3 (rV (eTup (dCons (eAnd (eFz (eCall f__law_inside (aVal (eVar 0) (aVal (eVar 2) aNil)))) (eFz (eCall f__law_inside (aVal (eVar 1) (aVal (eVar 2) aNil))))) (dCons (eAnd (eFz (eCall f__law_inside (aVal (eVar 2) (aVal (eVar 0) aNil)))) (eFz (eCall f__law_inside (aVal (eVar 2) (aVal (eVar 1) aNil))))) dNil))))) (sSeq (sIf (eNotT (eTru (eFz (eCall f__law_same (aVal (eTup (dCons (eFz (eCall f_stretch_within (aVal (eVar 4) (aVal (eVar 2) aNil)))) (dCons (eFz (eCall f_stretch_within (aVal (eVar 2) (aVal (eVar 5) aNil)))) dNil))) (aVal (eVar 3) aNil)))))) (sRet (rV (eC (.bool false)))) sSkip) (sSeq (sIf (eNotT (eTru (eFz (eCall f__law_same (aVal (eTup (dCons (eFz (eCall f_stretch_met (aVal (eVar 0) (aVal (eVar 4) aNil)))) (dCons (eFz (eCall f_stretch_joined (aVal (eVar 0) (aVal (eVar 5) aNil)))) dNil))) (aVal (eTup (dCons (eVar 0) (dCons (eVar 0) dNil))) aNil)))))) (sRet (rV (eC (.bool false)))) sSkip) (sSeq (sSet 3 (rV (eTup (dCons (eFz (eCall f__law_join (aVal (eVar 0) (aVal (eFz (eCall f__law_join (aVal (eVar 1) (aVal (eVar 2) aNil)))) aNil)))) (dCons (eFz (eCall f__law_meet (aVal (eVar 0) (aVal (eFz (eCall f__law_meet (aVal (eVar 1) (aVal (eVar 2) aNil)))) aNil)))) dNil))))) (sSeq (sIf (eNotT (eTru (eFz (eCall f__law_same (aVal (eTup (dCons (eFz (eCall f_stretch_joined (aVal (eVar 4) (aVal (eVar 2) aNil)))) (dCons (eFz (eCall f_stretch_met (aVal (eVar 5) (aVal (eVar 2) aNil)))) dNil))) (aVal (eVar 3) aNil)))))) (sRet (rV (eC (.bool false)))) sSkip) (sRet (eCall f__law_same (aVal (eTup (dCons (eFz (eCall f_stretch_joined (aVal (eVar 0) (aVal (eFz (eCall f_stretch_joined (aVal (eVar 1) (aVal (eVar 2) aNil)))) aNil)))) (dCons (eFz (eCall f_stretch_met (aVal (eVar 0) (aVal (eFz (eCall f_stretch_met (aVal (eVar 1) (aVal (eVar 2) aNil)))) aNil)))) dNil))) (aVal (eVar 3) aNil))))))))))
def k__law_three_right (f_stretch_within f_stretch_joined f_stretch_met f__law_same f__law_inside f__law_join f__law_meet : Fn) : Fn := callFn 6 (k__law_three_right_b f_stretch_within f_stretch_joined f_stretch_met f__law_same f__law_inside f__law_join f__law_meet)
def k__law_numbers_right_b (f_stretch_holds f_stretch_joined f_stretch_met f__law_same f__law_has : Fn) : Fx Fl := (sSeq (sPar [4, 5] (aR (eCall f_stretch_joined (aVal (eVar 0) (aVal (eVar 1) aNil))) (aR (eCall f_stretch_met (aVal (eVar 0) (aVal (eVar 1) aNil))) aNil))) (sSeq (sFor (iSeq (eVar 2)) (gN 3) (sSeq (sPar [6, 7] (aR (eCall f__law_has (aVal (eVar 0) (aVal (eVar 3) aNil))) (aR (eCall f__law_has (aVal (eVar 1) (aVal (eVar 3) aNil))) aNil))) (sSeq (sIf (eNotT (eTru (eFz (eCall f__law_same (aVal (eFz (eCall f_stretch_holds (aVal (eVar 5) (aVal (eVar 3) aNil)))) (aVal (eAnd (eVar 6) (eVar 7)) aNil)))))) (sRet (rV (eC (.bool false)))) sSkip) (sIf (eAndT (eOrT (eTru (eVar 6)) (eTru (eVar 7))) (eNotT (eTru (eFz (eCall f__law_same (aVal (eFz (eCall f_stretch_holds (aVal (eVar 4) (aVal (eVar 3) aNil)))) (aVal (eC (.bool true)) aNil))))))) (sRet (rV (eC (.bool false)))) sSkip)))) (sRet (rV (eC (.bool true))))))
def k__law_numbers_right (f_stretch_holds f_stretch_joined f_stretch_met f__law_same f__law_has : Fn) : Fn := callFn 8 (k__law_numbers_right_b f_stretch_holds f_stretch_joined f_stretch_met f__law_same f__law_has)
def k__law_right_b (f__law_number f__law_stretch f__law_near f__law_beside f__law_two_right f__law_three_right f__law_numbers_right : Fn) : Fx Fl := (sSeq (sSet 1 (eCall f__law_stretch (aSlot 0 aNil))) (sSeq (sSet 2 (eCall f__law_near (aSlot 0 (aVal (eVar 1) aNil)))) (sSeq (sSet 3 (eCall f__law_near (aSlot 0 (aVal (eOp gAdd (eVar 1) (eVar 2)) aNil)))) (sSeq (sSet 4 (rV (eOp gAdd (eFz (eCall f__law_beside (aVal (eOp gAdd (eVar 1) (eVar 2)) aNil))) (eFz (eLst (dCons (eFz (eCall f__law_number (aSlot 0 aNil))) dNil)))))) (sSeq (sFor (iSeq (eTup (dCons (eVar 1) (dCons (eVar 2) (dCons (eVar 3) dNil))))) (gN 5) (sIf (eNotT (eTru (eBlt gAll (dCons (eFz (eComp (iSeq (eTup (dCons (eVar 1) (dCons (eVar 2) (dCons (eVar 3) dNil))))) (gN 6) (fun env => some (true, env)) (eFz (eCall f__law_two_right (aVal (eVar 5) (aVal (eVar 6) aNil)))) [6])) dNil)))) (sRet (rV (eC (.bool false)))) sSkip)) (sSeq (sIf (eOrT (eNotT (eTru (eFz (eCall f__law_three_right (aVal (eVar 1) (aVal (eVar 2) (aVal (eVar 3) aNil))))))) (eNotT (eTru (eFz (eCall f__law_three_right (aVal (eVar 3) (aVal (eVar 1) (aVal (eVar 2) aNil)))))))) (sRet (rV (eC (.bool false)))) sSkip) (sRet (rV (eAnd (eFz (eCall f__law_numbers_right (aVal (eVar 1) (aVal (eVar 2) (aVal (eVar 4) aNil))))) (eFz (eCall f__law_numbers_right (aVal (eVar 2) (aVal (eVar 3) (aVal (eVar 4) aNil))))))))))))))
def k__law_right (f__law_number f__law_stretch f__law_near f__law_beside f__law_two_right f__law_three_right f__law_numbers_right : Fn) : Fn := callFn 7 (k__law_right_b f__law_number f__law_stretch f__law_near f__law_beside f__law_two_right f__law_three_right f__law_numbers_right)
def k_are_wholes_e1 (f_is_whole : Fn) : Fx D := (eFz (eCall f_is_whole (aVal (eVar 2) aNil)))
def k_are_wholes_b (f_is_whole : Fn) : Fx Fl := (sRet (rV (eAnd (eIsi "tuple" (eVar 0)) (eAnd (eOp gEq (eLenN 0) (eVar 1)) (eBlt gAll (dCons (eFz (eComp (iSeq (eVar 0)) (gN 2) (fun env => some (true, env)) (k_are_wholes_e1 f_is_whole) [2])) dNil))))))
def k_are_wholes (f_is_whole : Fn) : Fn := callFn 3 (k_are_wholes_b f_is_whole)
def k_is_rested_b (f_are_wholes : Fn) : Fx Fl := (sSeq (sIf (eAndT (eTru (eIsi "tuple" (eVar 0))) (eB (eOp gEq (eVar 0) (eC (.tuple []))))) (sRet (rV (eC (.bool true)))) sSkip) (sSeq (sIf (eOrT (eNotT (eTru (eFz (eCall f_are_wholes (aVal (eVar 0) (aVal (eC (.int 2)) aNil)))))) (eB (eOp gLt (eItemN 0 (eC (.int 1))) (eC (.int 0))))) (sRet (rV (eC (.bool false)))) sSkip) (sRet (rV (eOr (eOp gEq (eItemN 0 (eC (.int 1))) (eC (.int 0))) (eAnd (eOp gEq (eOp gMod (eC (.int 20160)) (eItemN 0 (eC (.int 1)))) (eC (.int 0))) (eChain gLe gLt (eC (.int 0)) (eItemN 0 (eC (.int 0))) (eItemN 0 (eC (.int 1))))))))))
def k_is_rested (f_are_wholes : Fn) : Fn := callFn 1 (k_is_rested_b f_are_wholes)
def k_is_multiple_b : Fx Fl := (sRet (eIf (eB (eOp gEq (eVar 1) (eC (.int 0)))) (rV (eOp gEq (eVar 0) (eC (.int 0)))) (rV (eOp gEq (eOp gMod (eVar 0) (eVar 1)) (eC (.int 0))))))
def k_is_multiple : Fn := callFn 2 (k_is_multiple_b)
def k_is_left_b (f_is_multiple : Fn) : Fx Fl := (sRet (rV (eAnd (eOp gNe (eVar 0) (eC (.tuple []))) (eFz (eCall f_is_multiple (aVal (eOp gSub (eVar 1) (eItemN 0 (eC (.int 0)))) (aVal (eItemN 0 (eC (.int 1))) aNil)))))))
def k_is_left (f_is_multiple : Fn) : Fn := callFn 2 (k_is_left_b f_is_multiple)
def k_check_rest_b (f_is_rested : Fn) : Fx Fl := (sIf (eNotT (eTru (eFz (eCall f_is_rested (aVal (eVar 0) aNil))))) sStuck sSkip)
def k_check_rest (f_is_rested : Fn) : Fn := callFn 1 (k_check_rest_b f_is_rested)
def k_rest_holds_b (f_is_left f_check_rest f_check_whole : Fn) : Fx Fl := (sSeq (sExpr (eCall f_check_rest (aVal (eVar 0) aNil))) (sSeq (sExpr (eCall f_check_whole (aVal (eVar 1) aNil))) (sRet (eCall f_is_left (aVal (eVar 0) (aVal (eVar 1) aNil))))))
def k_rest_holds (f_is_left f_check_rest f_check_whole : Fn) : Fn := callFn 2 (k_rest_holds_b f_is_left f_check_rest f_check_whole)
def k__law_part_b (f__law_pick : Fn) : Fx Fl := (sSeq (sSet 1 (eCall f__law_pick (aSlot 0 (aVal (eTup (dCons (eC (.int 1)) (dCons (eC (.int 1)) (dCons (eC (.int 2)) (dCons (eC (.int 2)) (dCons (eC (.int 4)) (dCons (eC (.int 4)) (dCons (eC (.int 8)) (dCons (eC (.int 16)) (dCons (eC (.int 32)) (dCons (eC (.int 64)) dNil))))))))))) aNil)))) (sSeq (sSet 2 (eCall f__law_pick (aSlot 0 (aVal (eTup (dCons (eC (.int 1)) (dCons (eC (.int 1)) (dCons (eC (.int 3)) (dCons (eC (.int 9)) dNil))))) aNil)))) (sRet (rV (eOp gMul (eOp gMul (eOp gMul (eVar 1) (eVar 2)) (eFz (eCall f__law_pick (aSlot 0 (aVal (eTup (dCons (eC (.int 1)) (dCons (eC (.int 1)) (dCons (eC (.int 1)) (dCons (eC (.int 5)) dNil))))) aNil))))) (eFz (eCall f__law_pick (aSlot 0 (aVal (eTup (dCons (eC (.int 1)) (dCons (eC (.int 1)) (dCons (eC (.int 1)) (dCons (eC (.int 7)) dNil))))) aNil)))))))))
def k__law_part (f__law_pick : Fn) : Fn := callFn 3 (k__law_part_b f__law_pick)
def k__law_rest_b (f__law_take f__law_number f__law_part : Fn) : Fx Fl := (sSeq (sSet 1 (eCall f__law_take (aSlot 0 (aVal (eC (.int 9)) aNil)))) (sSeq (sIf (eB (eOp gLt (eVar 1) (eC (.int 3)))) (sRet (eIf (eB (eOp gEq (eVar 1) (eC (.int 0)))) (rV (eTup dNil)) (rV (eTup (dCons (eFz (eCall f__law_number (aSlot 0 aNil))) (dCons (eC (.int 0)) dNil)))))) sSkip) (sSeq (sSet 2 (eCall f__law_part (aSlot 0 aNil))) (sRet (rV (eTup (dCons (eFz (eCall f__law_take (aSlot 0 (aVal (eVar 2) aNil)))) (dCons (eVar 2) dNil))))))))
def k__law_rest (f__law_take f__law_number f__law_part : Fn) : Fn := callFn 3 (k__law_rest_b f__law_take f__law_number f__law_part)
def k__law_rest_near_b (f__law_take f__law_pick f__law_part f__law_rest : Fn) : Fx Fl := (sSeq (sIf (eOrT (eB (eOp gEq (eVar 1) (eTup dNil))) (eB (eOp gEq (eFz (eCall f__law_take (aSlot 0 (aVal (eC (.int 4)) aNil)))) (eC (.int 0))))) (sRet (eCall f__law_rest (aSlot 0 aNil))) sSkip) (sSeq (sSet 2 (rV (eOp gAdd (eOp gAdd (eItemN 1 (eC (.int 0))) (eOp gMul (eItemN 1 (eC (.int 1))) (eOp gSub (eFz (eCall f__law_take (aSlot 0 (aVal (eC (.int 7)) aNil)))) (eC (.int 3))))) (eFz (eCall f__law_pick (aSlot 0 (aVal (eTup (dCons (eC (.int 0)) (dCons (eC (.int 0)) (dCons (eC (.int 0)) (dCons (eC (.int 1)) (dCons (eOp gFdiv (eItemN 1 (eC (.int 1))) (eC (.int 2))) dNil)))))) aNil))))))) (sSeq (sIf (eB (eOp gEq (eFz (eCall f__law_take (aSlot 0 (aVal (eC (.int 4)) aNil)))) (eC (.int 0)))) (sRet (rV (eTup (dCons (eVar 2) (dCons (eC (.int 0)) dNil))))) sSkip) (sSeq (sSet 3 (eCall f__law_part (aSlot 0 aNil))) (sRet (rV (eTup (dCons (eOp gMod (eBlt gInt (dCons (eVar 2) dNil)) (eVar 3)) (dCons (eVar 3) dNil)))))))))
def k__law_rest_near (f__law_take f__law_pick f__law_part f__law_rest : Fn) : Fn := callFn 4 (k__law_rest_near_b f__law_take f__law_pick f__law_part f__law_rest)
def k__law_rest_has_b : Fx Fl := (sRet (rV (eAnd (eOp gNe (eVar 0) (eTup dNil)) (eIf (eB (eOp gEq (eItemN 0 (eC (.int 1))) (eC (.int 0)))) (eOp gEq (eItemN 0 (eC (.int 0))) (eVar 1)) (eOp gEq (eOp gMod (eBlt gInt (dCons (eVar 1) dNil)) (eItemN 0 (eC (.int 1)))) (eItemN 0 (eC (.int 0))))))))
def k__law_rest_has : Fn := callFn 2 (k__law_rest_has_b)
def k_end_back_b : Fx Fl := (sRet (eIf (eB (eOp gIs (eVar 0) (eC .none))) (rV (eC .none)) (rV (eNeg (eVar 0)))))
def k_end_back : Fn := callFn 1 (k_end_back_b)
def k_back_stretch_b (f_end_back : Fn) : Fx Fl := (sRet (eIf (eB (eOp gNe (eVar 0) (eC (.tuple [])))) (rV (eTup (dCons (eFz (eCall f_end_back (aVal (eItemN 0 (eC (.int 1))) aNil))) (dCons (eFz (eCall f_end_back (aVal (eItemN 0 (eC (.int 0))) aNil))) dNil)))) (rV (eC (.tuple [])))))
def k_back_stretch (f_end_back : Fn) : Fn := callFn 1 (k_back_stretch_b f_end_back)
def k_end_sum_b : Fx Fl := (sRet (eIf (eOrT (eB (eOp gIs (eVar 0) (eC .none))) (eB (eOp gIs (eVar 1) (eC .none)))) (rV (eC .none)) (rV (eOp gAdd (eVar 0) (eVar 1)))))
def k_end_sum : Fn := callFn 2 (k_end_sum_b)
def k_sum_stretch_b (f_end_sum : Fn) : Fx Fl := (sSeq (sIf (eOrT (eB (eOp gEq (eVar 0) (eC (.tuple [])))) (eB (eOp gEq (eVar 1) (eC (.tuple []))))) (sRet (rV (eC (.tuple [])))) sSkip) (sRet (rV (eTup (dCons (eFz (eCall f_end_sum (aVal (eItemN 0 (eC (.int 0))) (aVal (eItemN 1 (eC (.int 0))) aNil)))) (dCons (eFz (eCall f_end_sum (aVal (eItemN 0 (eC (.int 1))) (aVal (eItemN 1 (eC (.int 1))) aNil)))) dNil))))))
def k_sum_stretch (f_end_sum : Fn) : Fn := callFn 2 (k_sum_stretch_b f_end_sum)
def k_sides_of_b : Fx Fl := (sSeq (sAsg (eVar 0) (gTup 2 (gsCons (gN 1) (gsCons (gN 2) gsNil)))) (sRet (eLst (dCons (eIf (eB (eOp gIs (eVar 1) (eC .none))) (eTup (dCons (eNeg (eC (.int 1))) (dCons (eC (.int 0)) dNil))) (eTup (dCons (eC (.int 0)) (dCons (eVar 1) dNil)))) (dCons (eIf (eB (eOp gIs (eVar 2) (eC .none))) (eTup (dCons (eC (.int 1)) (dCons (eC (.int 0)) dNil))) (eTup (dCons (eC (.int 0)) (dCons (eVar 2) dNil)))) dNil)))))
def k_sides_of : Fn := callFn 3 (k_sides_of_b)
def k_sign_of_b : Fx Fl := (sRet (rV (eOp gSub (eOp gGt (eVar 0) (eC (.int 0))) (eOp gLt (eVar 0) (eC (.int 0))))))
def k_sign_of : Fn := callFn 1 (k_sign_of_b)
def k_side_product_b (f_sign_of : Fn) : Fx Fl := (sSeq (sIf (eAndT (eB (eOp gEq (eItemN 0 (eC (.int 0))) (eC (.int 0)))) (eB (eOp gEq (eItemN 1 (eC (.int 0))) (eC (.int 0))))) (sRet (rV (eTup (dCons (eC (.int 0)) (dCons (eOp gMul (eItemN 0 (eC (.int 1))) (eItemN 1 (eC (.int 1)))) dNil))))) sSkip) (sRet (rV (eTup (dCons (eOp gMul (eOp gAdd (eItemN 0 (eC (.int 0))) (eFz (eCall f_sign_of (aVal (eItemN 0 (eC (.int 1))) aNil)))) (eOp gAdd (eItemN 1 (eC (.int 0))) (eFz (eCall f_sign_of (aVal (eItemN 1 (eC (.int 1))) aNil))))) (dCons (eC (.int 0)) dNil))))))
def k_side_product (f_sign_of : Fn) : Fn := callFn 2 (k_side_product_b f_sign_of)
def k_product_stretch_b (f_sides_of f_side_product : Fn) : Fx Fl := (sSeq (sIf (eOrT (eB (eOp gEq (eVar 0) (eC (.tuple [])))) (eB (eOp gEq (eVar 1) (eC (.tuple []))))) (sRet (rV (eC (.tuple [])))) sSkip) (sSeq (sSet 2 (rV (eBlt gSorted (dCons (eFz (eComp2 (iSeq (eFz (eCall f_sides_of (aVal (eVar 0) aNil)))) (gN 5) (fun env => some (true, env)) (iSeq (eFz (eCall f_sides_of (aVal (eVar 1) aNil)))) (gN 6) (fun env => some (true, env)) (eFz (eCall f_side_product (aVal (eVar 5) (aVal (eVar 6) aNil)))) [5, 6] [6])) dNil)))) (sSeq (sPar [3, 4] (aR (rV (eItemN 2 (eC (.int 0)))) (aR (rV (eItemN 2 (eNeg (eC (.int 1))))) aNil))) (sRet (rV (eTup (dCons (eIf (eB (eOp gLt (eItemN 3 (eC (.int 0))) (eC (.int 0)))) (eC .none) (eItemN 3 (eC (.int 1)))) (dCons (eIf (eB (eOp gGt (eItemN 4 (eC (.int 0))) (eC (.int 0)))) (eC .none) (eItemN 4 (eC (.int 1)))) dNil))))))))
def k_product_stretch (f_sides_of f_side_product : Fn) : Fn := callFn 7 (k_product_stretch_b f_sides_of f_side_product)
def k_stretch_back_b (f_back_stretch f_check_stretch : Fn) : Fx Fl := (sSeq (sExpr (eCall f_check_stretch (aVal (eVar 0) aNil))) (sRet (eCall f_back_stretch (aVal (eVar 0) aNil))))
def k_stretch_back (f_back_stretch f_check_stretch : Fn) : Fn := callFn 1 (k_stretch_back_b f_back_stretch f_check_stretch)
def k_stretch_sum_b (f_sum_stretch f_check_stretches : Fn) : Fx Fl := (sSeq (sExpr (eCall f_check_stretches (aVal (eVar 0) (aVal (eVar 1) aNil)))) (sRet (eCall f_sum_stretch (aVal (eVar 0) (aVal (eVar 1) aNil)))))
def k_stretch_sum (f_sum_stretch f_check_stretches : Fn) : Fn := callFn 2 (k_stretch_sum_b f_sum_stretch f_check_stretches)
def k_stretch_product_b (f_product_stretch f_check_stretches : Fn) : Fx Fl := (sSeq (sExpr (eCall f_check_stretches (aVal (eVar 0) (aVal (eVar 1) aNil)))) (sRet (eCall f_product_stretch (aVal (eVar 0) (aVal (eVar 1) aNil)))))
def k_stretch_product (f_product_stretch f_check_stretches : Fn) : Fn := callFn 2 (k_stretch_product_b f_product_stretch f_check_stretches)
def k__law_in_b (f__law_take f__law_pick f__law_great f__law_number : Fn) : Fx Fl := (sSeq (sAsg (eVar 1) (gTup 2 (gsCons (gN 4) (gsCons (gN 5) gsNil)))) (sSeq (sIf (eAndT (eB (eOp gIs (eVar 4) (eC .none))) (eB (eOp gIs (eVar 5) (eC .none)))) (sRet (eCall f__law_number (aSlot 0 aNil))) sSkip) (sSeq (sSet 2 (eCall f__law_pick (aSlot 0 (aVal (eTup (dCons (eC (.int 0)) (dCons (eC (.int 1)) (dCons (eC (.int 2)) (dCons (eFz (eCall f__law_take (aSlot 0 (aVal (eC (.int 400)) aNil)))) (dCons (eFz (eCall f__law_great (aSlot 0 aNil))) dNil)))))) aNil)))) (sSeq (sIf (eB (eOp gIs (eVar 5) (eC .none))) (sRet (rV (eOp gAdd (eVar 4) (eVar 2)))) sSkip) (sSeq (sIf (eB (eOp gIs (eVar 4) (eC .none))) (sRet (rV (eOp gSub (eVar 5) (eVar 2)))) sSkip) (sSeq (sSet 3 (rV (eOp gMod (eBlt gInt (dCons (eVar 2) dNil)) (eOp gAdd (eOp gSub (eVar 5) (eVar 4)) (eC (.int 1)))))) (sRet (eIf (eB (eOp gEq (eFz (eCall f__law_take (aSlot 0 (aVal (eC (.int 2)) aNil)))) (eC (.int 0)))) (rV (eOp gAdd (eVar 4) (eVar 3))) (rV (eOp gSub (eVar 5) (eVar 3)))))))))))
def k__law_in (f__law_take f__law_pick f__law_great f__law_number : Fn) : Fn := callFn 6 (k__law_in_b f__law_take f__law_pick f__law_great f__law_number)
def k__law_turn_b : Fx Fl := (sSeq (sIf (eB (eOp gEq (eVar 0) (eTup dNil))) (sRet (rV (eTup dNil))) sSkip) (sRet (rV (eTup (dCons (eIf (eB (eOp gIs (eItemN 0 (eC (.int 1))) (eC .none))) (eC .none) (eOp gSub (eC (.int 0)) (eItemN 0 (eC (.int 1))))) (dCons (eIf (eB (eOp gIs (eItemN 0 (eC (.int 0))) (eC .none))) (eC .none) (eOp gSub (eC (.int 0)) (eItemN 0 (eC (.int 0))))) dNil))))))
def k__law_turn : Fn := callFn 1 (k__law_turn_b)
def k__law_all_b : Fx Fl := (sSeq (sIf (eOrT (eB (eOp gEq (eVar 0) (eTup dNil))) (eOrT (eB (eOp gIs (eItemN 0 (eC (.int 0))) (eC .none))) (eOrT (eB (eOp gIs (eItemN 0 (eC (.int 1))) (eC .none))) (eB (eOp gGt (eOp gSub (eItemN 0 (eC (.int 1))) (eItemN 0 (eC (.int 0)))) (eC (.int 11))))))) (sRet (eLst dNil)) sSkip) (sRet (eRgL2 (eItemN 0 (eC (.int 0))) (eOp gAdd (eItemN 0 (eC (.int 1))) (eC (.int 1))))))
def k__law_all : Fn := callFn 1 (k__law_all_b)
def k__law_hull_b : Fx Fl := (sRet (eIf (eB (eOp gNe (eVar 0) (eFz (eLst dNil)))) (rV (eTup (dCons (eBlt gMin (dCons (eVar 0) dNil)) (dCons (eBlt gMax (dCons (eVar 0) dNil)) dNil)))) (rV (eTup dNil))))
def k__law_hull : Fn := callFn 1 (k__law_hull_b)
def k__law_plus_b : Fx Fl := (sSeq (sIf (eOrT (eB (eOp gEq (eVar 0) (eTup dNil))) (eB (eOp gEq (eVar 1) (eTup dNil)))) (sRet (rV (eTup dNil))) sSkip) (sSeq (sSet 2 (eIf (eOrT (eB (eOp gIs (eItemN 0 (eC (.int 0))) (eC .none))) (eB (eOp gIs (eItemN 1 (eC (.int 0))) (eC .none)))) (rV (eC .none)) (rV (eOp gAdd (eItemN 0 (eC (.int 0))) (eItemN 1 (eC (.int 0))))))) (sRet (rV (eTup (dCons (eVar 2) (dCons (eIf (eOrT (eB (eOp gIs (eItemN 0 (eC (.int 1))) (eC .none))) (eB (eOp gIs (eItemN 1 (eC (.int 1))) (eC .none)))) (eC .none) (eOp gAdd (eItemN 0 (eC (.int 1))) (eItemN 1 (eC (.int 1))))) dNil)))))))
def k__law_plus : Fn := callFn 3 (k__law_plus_b)
def k__law_side_b : Fx Fl := (sSeq (sIf (eB (eOp gIs (eVar 0) (eC .none))) (sRet (rV (eOp gSub (eOp gMul (eC (.int 2)) (eVar 1)) (eC (.int 1))))) sSkip) (sRet (rV (eOp gSub (eIf (eB (eOp gGt (eVar 0) (eC (.int 0)))) (eC (.int 1)) (eC (.int 0))) (eIf (eB (eOp gLt (eVar 0) (eC (.int 0)))) (eC (.int 1)) (eC (.int 0)))))))
def k__law_side : Fn := callFn 2 (k__law_side_b)
def k__law_times_l1 (f__law_side : Fn) : Fx Fl := (sSeq (sSet 8 (rV (eOp gMul (eFz (eCall f__law_side (aVal (eItemN 0 (eVar 2)) (aVal (eVar 2) aNil)))) (eFz (eCall f__law_side (aVal (eItemN 1 (eVar 7)) (aVal (eVar 7) aNil))))))) (sIf (eB (eOp gEq (eVar 8) (eC (.int 0)))) (sApp 4 (eC (.int 0))) (sIf (eAndT (eB (eOp gIsNot (eItemN 0 (eVar 2)) (eC .none))) (eB (eOp gIsNot (eItemN 1 (eVar 7)) (eC .none)))) (sApp 4 (eOp gMul (eItemN 0 (eVar 2)) (eItemN 1 (eVar 7)))) (sPar [5, 6] (aR (rV (eOr (eVar 5) (eOp gLt (eVar 8) (eC (.int 0))))) (aR (rV (eOr (eVar 6) (eOp gGt (eVar 8) (eC (.int 0))))) aNil))))))
def k__law_times_l2 (f__law_side : Fn) : Fx Fl := (sFor (iSeq (eTup (dCons (eC (.int 0)) (dCons (eC (.int 1)) dNil)))) (gN 7) (k__law_times_l1 f__law_side))
def k__law_times_b (f__law_side : Fn) : Fx Fl := (sSeq (sIf (eOrT (eB (eOp gEq (eVar 0) (eTup dNil))) (eB (eOp gEq (eVar 1) (eTup dNil)))) (sRet (rV (eTup dNil))) sSkip) (sSeq (sPar [4, 5, 6] (aR (eLst dNil) (aR (rV (eC (.bool false))) (aR (rV (eC (.bool false))) aNil)))) (sSeq (sFor (iSeq (eTup (dCons (eC (.int 0)) (dCons (eC (.int 1)) dNil)))) (gN 2) (k__law_times_l2 f__law_side)) (sSeq (sSet 3 (eIf (eAndT (eB (eOp gNe (eVar 4) (eFz (eLst dNil)))) (eNotT (eTru (eVar 5)))) (rV (eBlt gMin (dCons (eVar 4) dNil))) (rV (eC .none)))) (sRet (rV (eTup (dCons (eVar 3) (dCons (eIf (eAndT (eB (eOp gNe (eVar 4) (eFz (eLst dNil)))) (eNotT (eTru (eVar 6)))) (eBlt gMax (dCons (eVar 4) dNil)) (eC .none)) dNil)))))))))
def k__law_times (f__law_side : Fn) : Fn := callFn 9 (k__law_times_b f__law_side)
def k__law_tried_l1 (f__law_all : Fn) : Fx Fl := (sSet 2 (rV (eOp gAdd (eVar 2) (eFz (eComp (iSeq (eFz (eCall f__law_all (aVal (eVar 1) aNil)))) (gN 4) (fun env => some (true, env)) (eOp gMul (eVar 3) (eVar 4)) [4])))))
def k__law_tried_b (f__law_all : Fn) : Fx Fl := (sSeq (sSet 2 (eLst dNil)) (sSeq (sFor (iSeq (eFz (eCall f__law_all (aVal (eVar 0) aNil)))) (gN 3) (k__law_tried_l1 f__law_all)) (sRet (eMove 2))))
def k__law_tried (f__law_all : Fn) : Fn := callFn 5 (k__law_tried_b f__law_all)
def k__law_two_right_v2_b (f_stretch_back f_stretch_sum f_stretch_product f__law_same f__law_turn f__law_hull f__law_plus f__law_times f__law_tried : Fn) : Fx Fl := (sSeq (sSet 2 (rV (eTup (dCons (eFz (eCall f__law_plus (aVal (eVar 0) (aVal (eVar 1) aNil)))) (dCons (eFz (eCall f__law_times (aVal (eVar 0) (aVal (eVar 1) aNil)))) (dCons (eFz (eCall f__law_turn (aVal (eVar 0) aNil))) dNil)))))) (sSeq (sIf (eNotT (eTru (eFz (eCall f__law_same (aVal (eTup (dCons (eFz (eCall f_stretch_sum (aVal (eVar 0) (aVal (eVar 1) aNil)))) (dCons (eFz (eCall f_stretch_product (aVal (eVar 0) (aVal (eVar 1) aNil)))) (dCons (eFz (eCall f_stretch_back (aVal (eVar 0) aNil))) dNil)))) (aVal (eVar 2) aNil)))))) (sRet (rV (eC (.bool false)))) sSkip) (sSeq (sSet 3 (rV (eTup (dCons (eFz (eCallK f_stretch_sum 0 2 [1, 0] dNil (dCons (eVar 1) (dCons (eVar 0) dNil)))) (dCons (eFz (eCallK f_stretch_product 0 2 [1, 0] dNil (dCons (eVar 1) (dCons (eVar 0) dNil)))) (dCons (eFz (eCallK f_stretch_back 0 1 [0] dNil (dCons (eVar 0) dNil))) dNil)))))) (sSeq (sIf (eNotT (eTru (eFz (eCall f__law_same (aVal (eVar 3) (aVal (eVar 2) aNil)))))) (sRet (rV (eC (.bool false)))) sSkip) (sSeq (sSet 4 (eCall f__law_tried (aVal (eVar 0) (aVal (eVar 1) aNil)))) (sRet (rV (eOr (eOp gEq (eVar 4) (eFz (eLst dNil))) (eFz (eCall f__law_same (aVal (eFz (eCall f_stretch_product (aVal (eVar 0) (aVal (eVar 1) aNil)))) (aVal (eFz (eCall f__law_hull (aVal (eVar 4) aNil))) aNil))))))))))))
def k__law_two_right_v2 (f_stretch_back f_stretch_sum f_stretch_product f__law_same f__law_turn f__law_hull f__law_plus f__law_times f__law_tried : Fn) : Fn := callFn 5 (k__law_two_right_v2_b f_stretch_back f_stretch_sum f_stretch_product f__law_same f__law_turn f__law_hull f__law_plus f__law_times f__law_tried)
def k__law_held_right_b (f_stretch_holds f_stretch_back f_stretch_sum f_stretch_product f__law_same : Fn) : Fx Fl := (sSeq (sSet 4 (rV (eTup (dCons (eFz (eCall f_stretch_holds (aVal (eFz (eCall f_stretch_sum (aVal (eVar 0) (aVal (eVar 1) aNil)))) (aVal (eOp gAdd (eVar 2) (eVar 3)) aNil)))) (dCons (eFz (eCall f_stretch_holds (aVal (eFz (eCall f_stretch_product (aVal (eVar 0) (aVal (eVar 1) aNil)))) (aVal (eOp gMul (eVar 2) (eVar 3)) aNil)))) dNil))))) (sSeq (sSet 4 (rV (eOp gAdd (eVar 4) (eTup (dCons (eFz (eCall f_stretch_holds (aVal (eFz (eCall f_stretch_back (aVal (eVar 0) aNil))) (aVal (eOp gSub (eC (.int 0)) (eVar 2)) aNil)))) (dCons (eFz (eCall f_stretch_holds (aVal (eFz (eCall f_stretch_product (aVal (eVar 1) (aVal (eVar 0) aNil)))) (aVal (eOp gMul (eVar 3) (eVar 2)) aNil)))) dNil)))))) (sRet (eCall f__law_same (aVal (eVar 4) (aVal (eOp gMul (eTup (dCons (eC (.bool true)) dNil)) (eC (.int 4))) aNil))))))
def k__law_held_right (f_stretch_holds f_stretch_back f_stretch_sum f_stretch_product f__law_same : Fn) : Fn := callFn 5 (k__law_held_right_b f_stretch_holds f_stretch_back f_stretch_sum f_stretch_product f__law_same)
def k__law_sums_right_l1 (f_stretch_holds f_stretch_met f_stretch_back f_stretch_sum f__law_same f__law_has : Fn) : Fx Fl := (sSeq (sSet 5 (eCall f__law_has (aVal (eVar 3) (aVal (eVar 4) aNil)))) (sSeq (sSet 6 (eCall f_stretch_met (aVal (eVar 0) (aVal (eFz (eCall f_stretch_sum (aVal (eTup (dCons (eVar 4) (dCons (eVar 4) dNil))) (aVal (eFz (eCall f_stretch_back (aVal (eVar 1) aNil))) aNil)))) aNil)))) (sIf (eNotT (eTru (eFz (eCall f__law_same (aVal (eTup (dCons (eFz (eCall f_stretch_holds (aVal (eFz (eCall f_stretch_sum (aVal (eVar 0) (aVal (eVar 1) aNil)))) (aVal (eVar 4) aNil)))) (dCons (eOp gNe (eVar 6) (eTup dNil)) dNil))) (aVal (eTup (dCons (eVar 5) (dCons (eVar 5) dNil))) aNil)))))) (sRet (rV (eC (.bool false)))) sSkip)))
def k__law_sums_right_b (f_stretch_holds f_stretch_met f_stretch_back f_stretch_sum f__law_same f__law_has f__law_plus : Fn) : Fx Fl := (sSeq (sSet 3 (eCall f__law_plus (aVal (eVar 0) (aVal (eVar 1) aNil)))) (sSeq (sFor (iSeq (eVar 2)) (gN 4) (k__law_sums_right_l1 f_stretch_holds f_stretch_met f_stretch_back f_stretch_sum f__law_same f__law_has)) (sRet (rV (eC (.bool true))))))
def k__law_sums_right (f_stretch_holds f_stretch_met f_stretch_back f_stretch_sum f__law_same f__law_has f__law_plus : Fn) : Fn := callFn 7 (k__law_sums_right_b f_stretch_holds f_stretch_met f_stretch_back f_stretch_sum f__law_same f__law_has f__law_plus)
def k_above_nought_b (f_met_stretch : Fn) : Fx Fl := (sRet (eCall f_met_stretch (aVal (eVar 0) (aVal (eTup (dCons (eC (.int 1)) (dCons (eC .none) dNil))) aNil))))
def k_above_nought (f_met_stretch : Fn) : Fn := callFn 1 (k_above_nought_b f_met_stretch)
def k_below_nought_b (f_back_stretch f_above_nought : Fn) : Fx Fl := (sRet (eCall f_above_nought (aVal (eFz (eCall f_back_stretch (aVal (eVar 0) aNil))) aNil)))
def k_below_nought (f_back_stretch f_above_nought : Fn) : Fn := callFn 1 (k_below_nought_b f_back_stretch f_above_nought)
def k_is_between_b (f_is_whole : Fn) : Fx Fl := (sRet (rV (eAnd (eFz (eCall f_is_whole (aVal (eVar 0) aNil))) (eChain gLe gLe (eVar 1) (eVar 0) (eVar 2)))))
def k_is_between (f_is_whole : Fn) : Fn := callFn 3 (k_is_between_b f_is_whole)
def k_modulo_by_one_b : Fx Fl := (sSeq (sAsg (eVar 0) (gTup 2 (gsCons (gN 2) (gsCons (gN 3) gsNil)))) (sSeq (sIf (eAndT (eB (eOp gIsNot (eVar 2) (eC .none))) (eAndT (eB (eOp gIsNot (eVar 3) (eC .none))) (eB (eOp gEq (eOp gFdiv (eVar 2) (eVar 1)) (eOp gFdiv (eVar 3) (eVar 1)))))) (sRet (rV (eTup (dCons (eOp gMod (eVar 2) (eVar 1)) (dCons (eOp gMod (eVar 3) (eVar 1)) dNil))))) sSkip) (sRet (rV (eTup (dCons (eC (.int 0)) (dCons (eOp gSub (eVar 1) (eC (.int 1))) dNil)))))))
def k_modulo_by_one : Fn := callFn 4 (k_modulo_by_one_b)
def k_lesser_end_b (f_is_high_within : Fn) : Fx Fl := (sRet (eIf (eTru (eFz (eCall f_is_high_within (aVal (eVar 0) (aVal (eVar 1) aNil))))) (eMove 0) (eMove 1)))
def k_lesser_end (f_is_high_within : Fn) : Fn := callFn 2 (k_lesser_end_b f_is_high_within)
def k_modulo_above_b (f_modulo_by_one f_lesser_end : Fn) : Fx Fl := (sSeq (sIf (eOrT (eB (eOp gEq (eVar 0) (eC (.tuple [])))) (eB (eOp gEq (eVar 1) (eC (.tuple []))))) (sRet (rV (eC (.tuple [])))) sSkip) (sSeq (sIf (eB (eOp gEq (eItemN 1 (eC (.int 0))) (eItemN 1 (eC (.int 1))))) (sRet (eCall f_modulo_by_one (aVal (eVar 0) (aVal (eItemN 1 (eC (.int 0))) aNil)))) sSkip) (sSeq (sSet 2 (eIf (eB (eOp gIs (eItemN 1 (eC (.int 1))) (eC .none))) (rV (eC .none)) (rV (eOp gSub (eItemN 1 (eC (.int 1))) (eC (.int 1)))))) (sSeq (sIf (eOrT (eB (eOp gIs (eItemN 0 (eC (.int 0))) (eC .none))) (eB (eOp gLt (eItemN 0 (eC (.int 0))) (eC (.int 0))))) (sRet (rV (eTup (dCons (eC (.int 0)) (dCons (eVar 2) dNil))))) sSkip) (sSeq (sIf (eAndT (eB (eOp gIsNot (eItemN 0 (eC (.int 1))) (eC .none))) (eB (eOp gLt (eItemN 0 (eC (.int 1))) (eItemN 1 (eC (.int 0)))))) (sRet (eMove 0)) sSkip) (sRet (rV (eTup (dCons (eC (.int 0)) (dCons (eFz (eCall f_lesser_end (aVal (eVar 2) (aVal (eItemN 0 (eC (.int 1))) aNil)))) dNil))))))))))
def k_modulo_above (f_modulo_by_one f_lesser_end : Fn) : Fn := callFn 3 (k_modulo_above_b f_modulo_by_one f_lesser_end)
def k_modulo_stretch_b (f_joined_stretch f_back_stretch f_above_nought f_below_nought f_modulo_above : Fn) : Fx Fl := (sSeq (sSet 2 (eCall f_modulo_above (aVal (eVar 0) (aVal (eFz (eCall f_above_nought (aVal (eVar 1) aNil))) aNil)))) (sRet (eCall f_joined_stretch (aVal (eVar 2) (aVal (eFz (eCall f_back_stretch (aVal (eFz (eCall f_modulo_above (aVal (eFz (eCall f_back_stretch (aVal (eVar 0) aNil))) (aVal (eFz (eCall f_below_nought (aVal (eVar 1) aNil))) aNil)))) aNil))) aNil)))))
def k_modulo_stretch (f_joined_stretch f_back_stretch f_above_nought f_below_nought f_modulo_above : Fn) : Fn := callFn 3 (k_modulo_stretch_b f_joined_stretch f_back_stretch f_above_nought f_below_nought f_modulo_above)
def k_wrapped_stretch_b (f_modulo_stretch : Fn) : Fx Fl := (sRet (eCall f_modulo_stretch (aVal (eVar 0) (aVal (eTup (dCons (eOp gShl (eC (.int 1)) (eVar 1)) (dCons (eOp gShl (eC (.int 1)) (eVar 1)) dNil))) aNil))))
def k_wrapped_stretch (f_modulo_stretch : Fn) : Fn := callFn 2 (k_wrapped_stretch_b f_modulo_stretch)
def k_check_width_b (f_is_between : Fn) : Fx Fl := (sIf (eNotT (eTru (eFz (eCall f_is_between (aVal (eVar 0) (aVal (eC (.int 1)) (aVal (eC (.int 16)) aNil))))))) sStuck sSkip)
def k_check_width (f_is_between : Fn) : Fn := callFn 1 (k_check_width_b f_is_between)
def k_stretch_modulo_b (f_modulo_stretch f_check_stretches : Fn) : Fx Fl := (sSeq (sExpr (eCall f_check_stretches (aVal (eVar 0) (aVal (eVar 1) aNil)))) (sRet (eCall f_modulo_stretch (aVal (eVar 0) (aVal (eVar 1) aNil)))))
def k_stretch_modulo (f_modulo_stretch f_check_stretches : Fn) : Fn := callFn 2 (k_stretch_modulo_b f_modulo_stretch f_check_stretches)
def k_stretch_wrapped_b (f_wrapped_stretch f_check_stretch f_check_width : Fn) : Fx Fl := (sSeq (sExpr (eCall f_check_stretch (aVal (eVar 0) aNil))) (sSeq (sExpr (eCall f_check_width (aVal (eVar 1) aNil))) (sRet (eCall f_wrapped_stretch (aVal (eVar 0) (aVal (eVar 1) aNil))))))
def k_stretch_wrapped (f_wrapped_stretch f_check_stretch f_check_width : Fn) : Fn := callFn 2 (k_stretch_wrapped_b f_wrapped_stretch f_check_stretch f_check_width)
def k__law_left_up_b : Fx Fl := (sSeq (sIf (eB (eOp gEq (eVar 1) (eTup dNil))) (sRet (rV (eTup dNil))) sSkip) (sSeq (sAsg (eVar 0) (gTup 2 (gsCons (gN 3) (gsCons (gN 4) gsNil)))) (sSeq (sIf (eB (eOp gEq (eItemN 1 (eC (.int 0))) (eItemN 1 (eC (.int 1))))) (sSeq (sSet 5 (rV (eItemN 1 (eC (.int 0))))) (sSeq (sIf (eAndT (eB (eOp gIsNot (eVar 3) (eC .none))) (eAndT (eB (eOp gIsNot (eVar 4) (eC .none))) (eB (eOp gEq (eOp gFdiv (eVar 3) (eVar 5)) (eOp gFdiv (eVar 4) (eVar 5)))))) (sRet (rV (eTup (dCons (eOp gMod (eBlt gInt (dCons (eVar 3) dNil)) (eVar 5)) (dCons (eOp gMod (eBlt gInt (dCons (eVar 4) dNil)) (eVar 5)) dNil))))) sSkip) (sRet (rV (eTup (dCons (eC (.int 0)) (dCons (eOp gSub (eVar 5) (eC (.int 1))) dNil))))))) sSkip) (sSeq (sIf (eAndT (eB (eOp gIsNot (eVar 3) (eC .none))) (eAndT (eB (eOp gGe (eVar 3) (eC (.int 0)))) (eAndT (eB (eOp gIsNot (eVar 4) (eC .none))) (eB (eOp gLt (eVar 4) (eItemN 1 (eC (.int 0)))))))) (sRet (eMove 0)) sSkip) (sSeq (sSet 2 (eIf (eB (eOp gIs (eItemN 1 (eC (.int 1))) (eC .none))) (eLst dNil) (eLst (dCons (eOp gSub (eItemN 1 (eC (.int 1))) (eC (.int 1))) dNil)))) (sSeq (sIf (eAndT (eB (eOp gIsNot (eVar 3) (eC .none))) (eAndT (eB (eOp gGe (eVar 3) (eC (.int 0)))) (eB (eOp gIsNot (eVar 4) (eC .none))))) (sApp 2 (eVar 4)) sSkip) (sRet (rV (eTup (dCons (eC (.int 0)) (dCons (eIf (eB (eOp gNe (eVar 2) (eFz (eLst dNil)))) (eBlt gMin (dCons (eVar 2) dNil)) (eC .none)) dNil)))))))))))
def k__law_left_up : Fn := callFn 6 (k__law_left_up_b)
def k__law_left_b (f__law_join f__law_meet f__law_turn f__law_left_up : Fn) : Fx Fl := (sSeq (sIf (eB (eOp gEq (eVar 0) (eTup dNil))) (sRet (rV (eTup dNil))) sSkip) (sSeq (sSet 2 (eCall f__law_left_up (aVal (eVar 0) (aVal (eFz (eCall f__law_meet (aVal (eVar 1) (aVal (eTup (dCons (eC (.int 1)) (dCons (eC .none) dNil))) aNil)))) aNil)))) (sRet (eCall f__law_join (aVal (eVar 2) (aVal (eFz (eCall f__law_turn (aVal (eFz (eCall f__law_left_up (aVal (eFz (eCall f__law_turn (aVal (eVar 0) aNil))) (aVal (eFz (eCall f__law_meet (aVal (eFz (eCall f__law_turn (aVal (eVar 1) aNil))) (aVal (eTup (dCons (eC (.int 1)) (dCons (eC .none) dNil))) aNil)))) aNil)))) aNil))) aNil))))))
def k__law_left (f__law_join f__law_meet f__law_turn f__law_left_up : Fn) : Fn := callFn 3 (k__law_left_b f__law_join f__law_meet f__law_turn f__law_left_up)
def k__law_tried_v3_b : Fx Fl := (sSeq (sIf (eOrT (eB (eOp gIs (eItemN 0 (eC (.int 0))) (eC .none))) (eOrT (eB (eOp gIs (eItemN 0 (eC (.int 1))) (eC .none))) (eB (eOp gGe (eOp gSub (eItemN 0 (eC (.int 1))) (eItemN 0 (eC (.int 0)))) (eBlt gAbs (dCons (eVar 1) dNil)))))) (sSet 2 (eComp (iRange1 (eBlt gAbs (dCons (eVar 1) dNil))) (gN 3) (fun env => some (true, env)) (eOp gMod (eBlt gInt (dCons (eVar 3) dNil)) (eVar 1)) [3])) (sSet 2 (eComp (iRange2 (eItemN 0 (eC (.int 0))) (eOp gAdd (eItemN 0 (eC (.int 1))) (eC (.int 1)))) (gN 3) (fun env => some (true, env)) (eOp gMod (eBlt gInt (dCons (eVar 3) dNil)) (eVar 1)) [3]))) (sRet (rV (eTup (dCons (eBlt gMin (dCons (eVar 2) dNil)) (dCons (eBlt gMax (dCons (eVar 2) dNil)) dNil))))))
def k__law_tried_v3 : Fn := callFn 4 (k__law_tried_v3_b)
def k__law_two_right_v4_b (f_stretch_modulo f__law_same f__law_left : Fn) : Fx Fl := (sSeq (sSet 2 (eCall f__law_left (aVal (eVar 0) (aVal (eVar 1) aNil)))) (sRet (eCall f__law_same (aVal (eTup (dCons (eFz (eCall f_stretch_modulo (aVal (eVar 0) (aVal (eVar 1) aNil)))) (dCons (eFz (eCallK f_stretch_modulo 0 2 [1, 0] dNil (dCons (eVar 1) (dCons (eVar 0) dNil)))) dNil))) (aVal (eTup (dCons (eVar 2) (dCons (eVar 2) dNil))) aNil)))))
def k__law_two_right_v4 (f_stretch_modulo f__law_same f__law_left : Fn) : Fn := callFn 3 (k__law_two_right_v4_b f_stretch_modulo f__law_same f__law_left)
def k__law_wrapped_right_b (f_stretch_within f_stretch_modulo f_stretch_wrapped f__law_same f__law_left f__law_tried : Fn) : Fx Fl := (sSeq (sSet 2 (rV (eC (.int 1)))) (sSeq (sFor (iRange1 (eVar 1)) (gN 3) (sSet 2 (rV (eOp gMul (eVar 2) (eC (.int 2)))))) (sSeq (sPar [4, 5] (aR (eCall f_stretch_wrapped (aVal (eVar 0) (aVal (eVar 1) aNil))) (aR (eCall f__law_left (aVal (eVar 0) (aVal (eTup (dCons (eVar 2) (dCons (eVar 2) dNil))) aNil))) aNil))) (sSeq (sIf (eNotT (eTru (eFz (eCall f__law_same (aVal (eTup (dCons (eVar 4) (dCons (eFz (eCallK f_stretch_wrapped 0 2 [1, 0] dNil (dCons (eVar 1) (dCons (eVar 0) dNil)))) dNil))) (aVal (eTup (dCons (eVar 5) (dCons (eVar 5) dNil))) aNil)))))) (sRet (rV (eC (.bool false)))) sSkip) (sSeq (sIf (eAndT (eB (eOp gNe (eVar 0) (eTup dNil))) (eAndT (eB (eOp gLt (eVar 1) (eC (.int 7)))) (eNotT (eTru (eFz (eCall f__law_same (aVal (eVar 4) (aVal (eFz (eCall f__law_tried (aVal (eVar 0) (aVal (eVar 2) aNil)))) aNil)))))))) (sRet (rV (eC (.bool false)))) sSkip) (sRet (eCall f__law_same (aVal (eTup (dCons (eFz (eCall f_stretch_within (aVal (eVar 4) (aVal (eTup (dCons (eC (.int 0)) (dCons (eOp gSub (eVar 2) (eC (.int 1))) dNil))) aNil)))) (dCons (eFz (eCall f_stretch_modulo (aVal (eVar 0) (aVal (eTup (dCons (eVar 2) (dCons (eVar 2) dNil))) aNil)))) dNil))) (aVal (eTup (dCons (eC (.bool true)) (dCons (eVar 5) dNil))) aNil)))))))))
def k__law_wrapped_right (f_stretch_within f_stretch_modulo f_stretch_wrapped f__law_same f__law_left f__law_tried : Fn) : Fn := callFn 6 (k__law_wrapped_right_b f_stretch_within f_stretch_modulo f_stretch_wrapped f__law_same f__law_left f__law_tried)
def k__law_right_v5_l1 (f_stretch_holds f_stretch_modulo f__law_in f__law_same : Fn) : Fx Fl := (sSeq (sPar [6, 7] (aR (eCall f__law_in (aSlot 0 (aVal (eVar 4) aNil))) (aR (eCall f__law_in (aSlot 0 (aVal (eVar 1) aNil))) aNil))) (sIf (eAndT (eB (eOp gNe (eVar 7) (eC (.int 0)))) (eNotT (eTru (eFz (eCall f__law_same (aVal (eFz (eCall f_stretch_holds (aVal (eFz (eCall f_stretch_modulo (aVal (eVar 4) (aVal (eVar 1) aNil)))) (aVal (eOp gMod (eBlt gInt (dCons (eVar 6) dNil)) (eVar 7)) aNil)))) (aVal (eC (.bool true)) aNil))))))) (sRet (rV (eC (.bool false)))) sSkip))
def k__law_right_v5_b (f_stretch_holds f_stretch_modulo f__law_take f__law_stretch f__law_near f__law_in f__law_same f__law_tried f__law_two_right f__law_wrapped_right : Fn) : Fx Fl := (sSeq (sPar [4, 2, 5] (aR (eCall f__law_stretch (aSlot 0 aNil)) (aR (rV (eOp gSub (eFz (eCall f__law_take (aSlot 0 (aVal (eC (.int 129)) aNil)))) (eC (.int 64)))) (aR (rV (eOp gAdd (eC (.int 1)) (eFz (eCall f__law_take (aSlot 0 (aVal (eC (.int 16)) aNil)))))) aNil)))) (sSeq (sSet 1 (eIf (eB (eOp gGt (eFz (eCall f__law_take (aSlot 0 (aVal (eC (.int 3)) aNil)))) (eC (.int 0)))) (eCall f__law_near (aSlot 0 (aVal (eTup (dCons (eC (.int 0)) dNil)) aNil))) (eCall f__law_stretch (aSlot 0 aNil)))) (sSeq (sSet 2 (eIf (eB (eOp gNe (eVar 2) (eC (.int 0)))) (eMove 2) (rV (eC (.int 7))))) (sSeq (sIf (eOrT (eNotT (eTru (eFz (eCall f__law_two_right (aVal (eVar 4) (aVal (eVar 1) aNil)))))) (eOrT (eNotT (eTru (eFz (eCall f__law_two_right (aVal (eVar 1) (aVal (eVar 4) aNil)))))) (eNotT (eTru (eFz (eCall f__law_two_right (aVal (eVar 4) (aVal (eTup (dCons (eVar 2) (dCons (eVar 2) dNil))) aNil)))))))) (sRet (rV (eC (.bool false)))) sSkip) (sSeq (sIf (eOrT (eNotT (eTru (eFz (eCall f__law_wrapped_right (aVal (eVar 4) (aVal (eVar 5) aNil)))))) (eNotT (eTru (eFz (eCall f__law_wrapped_right (aVal (eVar 1) (aVal (eVar 5) aNil))))))) (sRet (rV (eC (.bool false)))) sSkip) (sSeq (sIf (eAndT (eB (eOp gNe (eVar 4) (eTup dNil))) (eNotT (eTru (eFz (eCall f__law_same (aVal (eFz (eCall f_stretch_modulo (aVal (eVar 4) (aVal (eTup (dCons (eVar 2) (dCons (eVar 2) dNil))) aNil)))) (aVal (eFz (eCall f__law_tried (aVal (eVar 4) (aVal (eVar 2) aNil)))) aNil))))))) (sRet (rV (eC (.bool false)))) sSkip) (sSeq (sIf (eOrT (eB (eOp gEq (eVar 4) (eTup dNil))) (eB (eOp gEq (eVar 1) (eTup dNil)))) (sRet (rV (eC (.bool true)))) sSkip) (sSeq (sFor (iRange1 (eC (.int 4))) (gN 3) (k__law_right_v5_l1 f_stretch_holds f_stretch_modulo f__law_in f__law_same)) (sRet (rV (eC (.bool true))))))))))))
def k__law_right_v5 (f_stretch_holds f_stretch_modulo f__law_take f__law_stretch f__law_near f__law_in f__law_same f__law_tried f__law_two_right f__law_wrapped_right : Fn) : Fn := callFn 8 (k__law_right_v5_b f_stretch_holds f_stretch_modulo f__law_take f__law_stretch f__law_near f__law_in f__law_same f__law_tried f__law_two_right f__law_wrapped_right)
def k_less_guarded_b (f_met_stretch f_end_sum : Fn) : Fx Fl := (sSeq (sIf (eOrT (eB (eOp gEq (eVar 0) (eC (.tuple [])))) (eB (eOp gEq (eVar 1) (eC (.tuple []))))) (sRet (rV (eTup (dCons (eC (.tuple [])) (dCons (eC (.tuple [])) dNil))))) sSkip) (sSeq (sSet 3 (eCall f_met_stretch (aVal (eVar 0) (aVal (eTup (dCons (eC .none) (dCons (eFz (eCall f_end_sum (aVal (eItemN 1 (eC (.int 1))) (aVal (eNeg (eVar 2)) aNil)))) dNil))) aNil)))) (sRet (rV (eTup (dCons (eVar 3) (dCons (eFz (eCall f_met_stretch (aVal (eVar 1) (aVal (eTup (dCons (eFz (eCall f_end_sum (aVal (eItemN 0 (eC (.int 0))) (aVal (eVar 2) aNil)))) (dCons (eC .none) dNil))) aNil)))) dNil)))))))
def k_less_guarded (f_met_stretch f_end_sum : Fn) : Fn := callFn 4 (k_less_guarded_b f_met_stretch f_end_sum)
def k_without_one_b : Fx Fl := (sSeq (sIf (eOrT (eB (eOp gEq (eVar 0) (eC (.tuple [])))) (eOrT (eB (eOp gEq (eVar 1) (eC (.tuple [])))) (eOrT (eB (eOp gIs (eItemN 1 (eC (.int 0))) (eC .none))) (eB (eOp gNe (eItemN 1 (eC (.int 0))) (eItemN 1 (eC (.int 1)))))))) (sRet (eIf (eB (eOp gNe (eVar 1) (eC (.tuple [])))) (eMove 0) (rV (eC (.tuple []))))) sSkip) (sSeq (sAsg (eVar 0) (gTup 2 (gsCons (gN 2) (gsCons (gN 3) gsNil)))) (sSeq (sIf (eB (eOp gEq (eVar 2) (eVar 3))) (sRet (eIf (eB (eOp gEq (eVar 2) (eItemN 1 (eC (.int 0))))) (rV (eC (.tuple []))) (eMove 0))) sSkip) (sRet (rV (eTup (dCons (eIf (eB (eOp gEq (eVar 2) (eItemN 1 (eC (.int 0))))) (eOp gAdd (eVar 2) (eC (.int 1))) (eVar 2)) (dCons (eIf (eB (eOp gEq (eVar 3) (eItemN 1 (eC (.int 0))))) (eOp gSub (eVar 3) (eC (.int 1))) (eVar 3)) dNil))))))))
def k_without_one : Fn := callFn 4 (k_without_one_b)
def k_guarded_stretches_b (f_met_stretch f_less_guarded f_without_one : Fn) : Fx Fl := (sSeq (sIf (eB (eOp gEq (eVar 0) (eC (.str "==")))) (sRet (rV (eOp gMul (eTup (dCons (eFz (eCall f_met_stretch (aVal (eVar 1) (aVal (eVar 2) aNil)))) dNil)) (eC (.int 2))))) sSkip) (sSeq (sIf (eB (eOp gEq (eVar 0) (eC (.str "!=")))) (sSet 3 (rV (eTup (dCons (eFz (eCall f_without_one (aVal (eVar 1) (aVal (eVar 2) aNil)))) (dCons (eFz (eCall f_without_one (aVal (eVar 2) (aVal (eVar 1) aNil)))) dNil))))) (sSet 3 (eCall f_less_guarded (aVal (eVar 1) (aVal (eVar 2) (aVal (eIf (eB (eOp gEq (eVar 0) (eC (.str "<")))) (eC (.int 1)) (eC (.int 0))) aNil)))))) (sRet (eIf (eB (eOp gNotIn (eC (.tuple [])) (eVar 3))) (eMove 3) (rV (eTup (dCons (eC (.tuple [])) (dCons (eC (.tuple [])) dNil))))))))
def k_guarded_stretches (f_met_stretch f_less_guarded f_without_one : Fn) : Fn := callFn 4 (k_guarded_stretches_b f_met_stretch f_less_guarded f_without_one)
def k_check_guard_b : Fx Fl := (sIf (eOrT (eNotT (eTru (eIsi "str" (eVar 0)))) (eB (eOp gNotIn (eVar 0) (eC (.tuple [(.str "<"), (.str "<="), (.str "=="), (.str "!=")]))))) sStuck sSkip)
def k_check_guard : Fn := callFn 1 (k_check_guard_b)
def k_stretch_guarded_b (f_guarded_stretches f_check_stretches f_check_guard : Fn) : Fx Fl := (sSeq (sExpr (eCall f_check_guard (aVal (eVar 0) aNil))) (sSeq (sExpr (eCall f_check_stretches (aVal (eVar 1) (aVal (eVar 2) aNil)))) (sRet (eCall f_guarded_stretches (aVal (eVar 0) (aVal (eVar 1) (aVal (eVar 2) aNil)))))))
def k_stretch_guarded (f_guarded_stretches f_check_stretches f_check_guard : Fn) : Fn := callFn 3 (k_stretch_guarded_b f_guarded_stretches f_check_stretches f_check_guard)
def k__law_lets_b : Fx Fl := (sSeq (sIf (eB (eOp gEq (eVar 0) (eC (.str "<")))) (sRet (rV (eOp gLt (eVar 1) (eVar 2)))) sSkip) (sSeq (sIf (eB (eOp gEq (eVar 0) (eC (.str "<=")))) (sRet (rV (eOp gLe (eVar 1) (eVar 2)))) sSkip) (sRet (eIf (eB (eOp gEq (eVar 0) (eC (.str "==")))) (rV (eOp gEq (eVar 1) (eVar 2))) (rV (eOp gNe (eVar 1) (eVar 2)))))))
def k__law_lets : Fn := callFn 3 (k__law_lets_b)
def k__law_without_b : Fx Fl := (sSeq (sIf (eOrT (eB (eOp gIs (eItemN 1 (eC (.int 0))) (eC .none))) (eB (eOp gNe (eItemN 1 (eC (.int 0))) (eItemN 1 (eC (.int 1)))))) (sRet (eMove 0)) sSkip) (sSeq (sIf (eB (eOp gEq (eVar 0) (eVar 1))) (sRet (rV (eTup dNil))) sSkip) (sSeq (sIf (eB (eOp gEq (eItemN 0 (eC (.int 0))) (eItemN 1 (eC (.int 0))))) (sRet (rV (eTup (dCons (eOp gAdd (eItemN 0 (eC (.int 0))) (eC (.int 1))) (dCons (eItemN 0 (eC (.int 1))) dNil))))) sSkip) (sRet (eIf (eB (eOp gEq (eItemN 0 (eC (.int 1))) (eItemN 1 (eC (.int 0))))) (rV (eTup (dCons (eItemN 0 (eC (.int 0))) (dCons (eOp gSub (eItemN 0 (eC (.int 1))) (eC (.int 1))) dNil)))) (eMove 0))))))
def k__law_without : Fn := callFn 2 (k__law_without_b)
def k__law_guarded_b (f__law_meet f__law_without : Fn) : Fx Fl := (sSeq (sIf (eOrT (eB (eOp gEq (eVar 1) (eTup dNil))) (eB (eOp gEq (eVar 2) (eTup dNil)))) (sRet (rV (eTup (dCons (eTup dNil) (dCons (eTup dNil) dNil))))) sSkip) (sSeq (sIf (eB (eOp gEq (eVar 0) (eC (.str "==")))) (sPar [3, 4] (aR (eCall f__law_meet (aVal (eVar 1) (aVal (eVar 2) aNil))) (aR (eCall f__law_meet (aVal (eVar 1) (aVal (eVar 2) aNil))) aNil))) (sIf (eB (eOp gEq (eVar 0) (eC (.str "!=")))) (sPar [3, 4] (aR (eCall f__law_without (aVal (eVar 1) (aVal (eVar 2) aNil))) (aR (eCall f__law_without (aVal (eVar 2) (aVal (eVar 1) aNil))) aNil))) (sSeq (sSet 5 (eIf (eB (eOp gEq (eVar 0) (eC (.str "<")))) (rV (eC (.int 1))) (rV (eC (.int 0))))) (sSeq (sSet 3 (eCall f__law_meet (aVal (eVar 1) (aVal (eTup (dCons (eC .none) (dCons (eIf (eB (eOp gIs (eItemN 2 (eC (.int 1))) (eC .none))) (eC .none) (eOp gSub (eItemN 2 (eC (.int 1))) (eVar 5))) dNil))) aNil)))) (sSet 4 (eCall f__law_meet (aVal (eVar 2) (aVal (eTup (dCons (eIf (eB (eOp gIs (eItemN 1 (eC (.int 0))) (eC .none))) (eC .none) (eOp gAdd (eItemN 1 (eC (.int 0))) (eVar 5))) (dCons (eC .none) dNil))) aNil)))))))) (sRet (eIf (eOrT (eB (eOp gEq (eVar 3) (eTup dNil))) (eB (eOp gEq (eVar 4) (eTup dNil)))) (rV (eTup (dCons (eTup dNil) (dCons (eTup dNil) dNil)))) (rV (eTup (dCons (eVar 3) (dCons (eVar 4) dNil))))))))
def k__law_guarded (f__law_meet f__law_without : Fn) : Fn := callFn 6 (k__law_guarded_b f__law_meet f__law_without)
def k__law_tried_v4_b (f__law_all f__law_hull f__law_lets : Fn) : Fx Fl := (sSeq (sPar [4, 5] (aR (eLst dNil) (aR (eLst dNil) aNil))) (sSeq (sFor (iSeq (eFz (eCall f__law_all (aVal (eVar 1) aNil)))) (gN 3) (sFor (iSeq (eFz (eCall f__law_all (aVal (eVar 2) aNil)))) (gN 6) (sIf (eTru (eFz (eCall f__law_lets (aVal (eVar 0) (aVal (eVar 3) (aVal (eVar 6) aNil)))))) (sSeq (sApp 4 (eVar 3)) (sApp 5 (eVar 6))) sSkip))) (sRet (rV (eTup (dCons (eFz (eCall f__law_hull (aVal (eVar 4) aNil))) (dCons (eFz (eCall f__law_hull (aVal (eVar 5) aNil))) dNil)))))))
def k__law_tried_v4 (f__law_all f__law_hull f__law_lets : Fn) : Fn := callFn 7 (k__law_tried_v4_b f__law_all f__law_hull f__law_lets)
def k__law_two_right_v5_b (f_stretch_guarded f__law_same f__law_all f__law_guarded f__law_tried : Fn) : Fx Fl := (sSeq (sSet 3 (eCall f__law_guarded (aVal (eVar 0) (aVal (eVar 1) (aVal (eVar 2) aNil))))) (sSeq (sSet 4 (eCall f_stretch_guarded (aVal (eVar 0) (aVal (eVar 1) (aVal (eVar 2) aNil))))) (sSeq (sIf (eNotT (eTru (eFz (eCall f__law_same (aVal (eTup (dCons (eVar 4) (dCons (eFz (eCallK f_stretch_guarded 0 3 [2, 1, 0] dNil (dCons (eVar 2) (dCons (eVar 1) (dCons (eVar 0) dNil))))) dNil))) (aVal (eTup (dCons (eVar 3) (dCons (eVar 3) dNil))) aNil)))))) (sRet (rV (eC (.bool false)))) sSkip) (sSeq (sIf (eAndT (eB (eOp gNe (eFz (eCall f__law_all (aVal (eVar 1) aNil))) (eFz (eLst dNil)))) (eAndT (eB (eOp gNe (eFz (eCall f__law_all (aVal (eVar 2) aNil))) (eFz (eLst dNil)))) (eNotT (eTru (eFz (eCall f__law_same (aVal (eVar 4) (aVal (eFz (eCall f__law_tried (aVal (eVar 0) (aVal (eVar 1) (aVal (eVar 2) aNil))))) aNil)))))))) (sRet (rV (eC (.bool false)))) sSkip) (sRet (eCall f__law_same (aVal (eFz (eCall f_stretch_guarded (aVal (eVar 0) (aVal (eItemN 4 (eC (.int 0))) (aVal (eItemN 4 (eC (.int 1))) aNil))))) (aVal (eVar 3) aNil))))))))
def k__law_two_right_v5 (f_stretch_guarded f__law_same f__law_all f__law_guarded f__law_tried : Fn) : Fn := callFn 5 (k__law_two_right_v5_b f_stretch_guarded f__law_same f__law_all f__law_guarded f__law_tried)
def k__law_held_right_v2_b (f_stretch_holds f_stretch_guarded f__law_same f__law_lets : Fn) : Fx Fl := (sSeq (sIf (eNotT (eTru (eFz (eCall f__law_lets (aVal (eVar 0) (aVal (eVar 3) (aVal (eVar 4) aNil))))))) (sRet (rV (eC (.bool true)))) sSkip) (sSeq (sSet 5 (eCall f_stretch_guarded (aVal (eVar 0) (aVal (eVar 1) (aVal (eVar 2) aNil))))) (sRet (eCall f__law_same (aVal (eTup (dCons (eFz (eCall f_stretch_holds (aVal (eItemN 5 (eC (.int 0))) (aVal (eVar 3) aNil)))) (dCons (eFz (eCall f_stretch_holds (aVal (eItemN 5 (eC (.int 1))) (aVal (eVar 4) aNil)))) dNil))) (aVal (eTup (dCons (eC (.bool true)) (dCons (eC (.bool true)) dNil))) aNil))))))
def k__law_held_right_v2 (f_stretch_holds f_stretch_guarded f__law_same f__law_lets : Fn) : Fn := callFn 6 (k__law_held_right_v2_b f_stretch_holds f_stretch_guarded f__law_same f__law_lets)
def k__law_right_v6_b (f__law_stretch f__law_near f__law_in f__law_two_right f__law_held_right : Fn) : Fx Fl := (sSeq (sSet 1 (eCall f__law_stretch (aSlot 0 aNil))) (sSeq (sSet 2 (eCall f__law_near (aSlot 0 (aVal (eVar 1) aNil)))) (sSeq (sFor (iSeq (eTup (dCons (eC (.str "<")) (dCons (eC (.str "<=")) (dCons (eC (.str "==")) (dCons (eC (.str "!=")) dNil)))))) (gN 3) (sIf (eOrT (eNotT (eTru (eFz (eCall f__law_two_right (aVal (eVar 3) (aVal (eVar 1) (aVal (eVar 2) aNil))))))) (eNotT (eTru (eFz (eCall f__law_two_right (aVal (eVar 3) (aVal (eVar 2) (aVal (eVar 1) aNil)))))))) (sRet (rV (eC (.bool false)))) sSkip)) (sSeq (sIf (eOrT (eB (eOp gEq (eVar 1) (eTup dNil))) (eB (eOp gEq (eVar 2) (eTup dNil)))) (sRet (rV (eC (.bool true)))) sSkip) (sSeq (sFor (iRange1 (eC (.int 4))) (gN 4) (sSeq (sAsg (eTup (dCons (eFz (eCall f__law_in (aSlot 0 (aVal (eVar 1) aNil)))) (dCons (eFz (eCall f__law_in (aSlot 0 (aVal (eVar 2) aNil)))) dNil))) (gTup 2 (gsCons (gN 5) (gsCons (gN 6) gsNil)))) (sSeq (sIf (eNotT (eTru (eBlt gAll (dCons (eFz (eComp (iSeq (eTup (dCons (eC (.str "<")) (dCons (eC (.str "<=")) (dCons (eC (.str "==")) (dCons (eC (.str "!=")) dNil)))))) (gN 3) (fun env => some (true, env)) (eFz (eCall f__law_held_right (aVal (eVar 3) (aVal (eVar 1) (aVal (eVar 2) (aVal (eVar 5) (aVal (eVar 6) aNil))))))) [3])) dNil)))) (sRet (rV (eC (.bool false)))) sSkip) (sIf (eNotT (eTru (eBlt gAll (dCons (eFz (eComp (iSeq (eTup (dCons (eC (.str "<")) (dCons (eC (.str "<=")) (dCons (eC (.str "==")) (dCons (eC (.str "!=")) dNil)))))) (gN 3) (fun env => some (true, env)) (eFz (eCall f__law_held_right (aVal (eVar 3) (aVal (eVar 2) (aVal (eVar 1) (aVal (eVar 6) (aVal (eVar 5) aNil))))))) [3])) dNil)))) (sRet (rV (eC (.bool false)))) sSkip)))) (sRet (rV (eC (.bool true)))))))))
def k__law_right_v6 (f__law_stretch f__law_near f__law_in f__law_two_right f__law_held_right : Fn) : Fn := callFn 7 (k__law_right_v6_b f__law_stretch f__law_near f__law_in f__law_two_right f__law_held_right)
def k_rest_by_b : Fx Fl := (sRet (eIf (eB (eOp gEq (eVar 1) (eC (.int 0)))) (rV (eTup (dCons (eVar 0) (dCons (eC (.int 0)) dNil)))) (rV (eTup (dCons (eOp gMod (eVar 0) (eVar 1)) (dCons (eVar 1) dNil))))))
def k_rest_by : Fn := callFn 2 (k_rest_by_b)
def k_is_rest_within_b (f_is_multiple f_is_left : Fn) : Fx Fl := (sSeq (sIf (eOrT (eB (eOp gEq (eVar 0) (eC (.tuple [])))) (eB (eOp gEq (eVar 1) (eC (.tuple []))))) (sRet (rV (eOp gEq (eVar 0) (eC (.tuple []))))) sSkip) (sRet (rV (eAnd (eFz (eCall f_is_left (aVal (eVar 1) (aVal (eItemN 0 (eC (.int 0))) aNil)))) (eFz (eCall f_is_multiple (aVal (eItemN 0 (eC (.int 1))) (aVal (eItemN 1 (eC (.int 1))) aNil))))))))
def k_is_rest_within (f_is_multiple f_is_left : Fn) : Fn := callFn 2 (k_is_rest_within_b f_is_multiple f_is_left)
def k_joined_rest_b (f_rest_by : Fn) : Fx Fl := (sSeq (sIf (eOrT (eB (eOp gEq (eVar 0) (eC (.tuple [])))) (eB (eOp gEq (eVar 1) (eC (.tuple []))))) (sRet (eIf (eB (eOp gEq (eVar 1) (eC (.tuple [])))) (eMove 0) (eMove 1))) sSkip) (sSeq (sSet 2 (rV (eBlt gGcd (dCons (eItemN 0 (eC (.int 1))) (dCons (eItemN 1 (eC (.int 1))) (dCons (eOp gSub (eItemN 0 (eC (.int 0))) (eItemN 1 (eC (.int 0)))) dNil)))))) (sRet (eCall f_rest_by (aVal (eItemN 0 (eC (.int 0))) (aVal (eIf (eB (eOp gNe (eVar 2) (eC (.int 0)))) (eBlt gGcd (dCons (eVar 2) (dCons (eC (.int 20160)) dNil))) (eC (.int 0))) aNil))))))
def k_joined_rest (f_rest_by : Fn) : Fn := callFn 3 (k_joined_rest_b f_rest_by)
def k_check_rests_b (f_check_rest : Fn) : Fx Fl := (sSeq (sExpr (eCall f_check_rest (aVal (eVar 0) aNil))) (sExpr (eCall f_check_rest (aVal (eVar 1) aNil))))
def k_check_rests (f_check_rest : Fn) : Fn := callFn 2 (k_check_rests_b f_check_rest)
def k_rest_within_b (f_is_rest_within f_check_rests : Fn) : Fx Fl := (sSeq (sExpr (eCall f_check_rests (aVal (eVar 0) (aVal (eVar 1) aNil)))) (sRet (eCall f_is_rest_within (aVal (eVar 0) (aVal (eVar 1) aNil)))))
def k_rest_within (f_is_rest_within f_check_rests : Fn) : Fn := callFn 2 (k_rest_within_b f_is_rest_within f_check_rests)
def k_rest_joined_b (f_joined_rest f_check_rests : Fn) : Fx Fl := (sSeq (sExpr (eCall f_check_rests (aVal (eVar 0) (aVal (eVar 1) aNil)))) (sRet (eCall f_joined_rest (aVal (eVar 0) (aVal (eVar 1) aNil)))))
def k_rest_joined (f_joined_rest f_check_rests : Fn) : Fn := callFn 2 (k_rest_joined_b f_joined_rest f_check_rests)
def k__law_common_l1 : Fx Fl := (sPar [0, 1] (aR (eMove 1) (aR (rV (eOp gMod (eBlt gInt (dCons (eVar 0) dNil)) (eVar 1))) aNil)))
def k__law_common_b_w (w : Nat) : Fx Fl := (sSeq (sPar [0, 1] (aR (rV (eBlt gAbs (dCons (eVar 0) dNil))) (aR (rV (eBlt gAbs (dCons (eVar 1) dNil))) aNil))) (sSeq (sWhile (eB (eOp gNe (eVar 1) (eC (.int 0)))) k__law_common_l1 w) (sRet (eMove 0))))
def k__law_common_b : Fx Fl := k__law_common_b_w wfl
def k__law_common : Fn := callFn 2 (k__law_common_b)
def k__law_least_l1 (f__law_common : Fn) : Fx Fl := (sSet 1 (eCall f__law_common (aVal (eVar 1) (aVal (eOp gSub (eVar 2) (eItemN 0 (eC (.int 0)))) aNil))))
def k__law_least_b (f__law_common : Fn) : Fx Fl := (sSeq (sIf (eB (eOp gEq (eVar 0) (eFz (eLst dNil)))) (sRet (rV (eTup dNil))) sSkip) (sSeq (sSet 1 (rV (eC (.int 0)))) (sSeq (sFor (iSeq (eVar 0)) (gN 2) (k__law_least_l1 f__law_common)) (sSeq (sIf (eB (eOp gEq (eVar 1) (eC (.int 0)))) (sRet (rV (eTup (dCons (eItemN 0 (eC (.int 0))) (dCons (eC (.int 0)) dNil))))) sSkip) (sSeq (sSet 1 (eCall f__law_common (aVal (eVar 1) (aVal (eC (.int 20160)) aNil)))) (sRet (rV (eTup (dCons (eOp gMod (eBlt gInt (dCons (eItemN 0 (eC (.int 0))) dNil)) (eVar 1)) (dCons (eVar 1) dNil))))))))))
def k__law_least (f__law_common : Fn) : Fn := callFn 3 (k__law_least_b f__law_common)
def k__law_two_of_b : Fx Fl := (sRet (eIf (eB (eOp gEq (eVar 0) (eTup dNil))) (eLst dNil) (eLst (dCons (eItemN 0 (eC (.int 0))) (dCons (eOp gAdd (eItemN 0 (eC (.int 0))) (eItemN 0 (eC (.int 1)))) dNil)))))
def k__law_two_of : Fn := callFn 1 (k__law_two_of_b)
def k__law_rest_inside_e1 (f__law_rest_has : Fn) : Fx D := (eFz (eCall f__law_rest_has (aVal (eVar 1) (aVal (eVar 2) aNil))))
def k__law_rest_inside_b (f__law_rest_has f__law_two_of : Fn) : Fx Fl := (sRet (rV (eBlt gAll (dCons (eFz (eComp (iSeq (eFz (eCall f__law_two_of (aVal (eVar 0) aNil)))) (gN 2) (fun env => some (true, env)) (k__law_rest_inside_e1 f__law_rest_has) [2])) dNil))))
def k__law_rest_inside (f__law_rest_has f__law_two_of : Fn) : Fn := callFn 3 (k__law_rest_inside_b f__law_rest_has f__law_two_of)
def k_primes_in_l1 : Fx Fl := (sPar [2, 3] (aR (rV (eOp gAdd (eVar 2) (eC (.int 1)))) (aR (rV (eOp gFdiv (eVar 3) (eVar 1))) aNil)))
def k_primes_in_l2 (w : Nat) : Fx Fl := (sWhile (eB (eOp gEq (eOp gMod (eVar 3) (eVar 1)) (eC (.int 0)))) k_primes_in_l1 w)
def k_primes_in_b_w (w : Nat) : Fx Fl := (sSeq (sPar [2, 3] (aR (rV (eC (.int 0))) (aR (eMove 0) aNil))) (sSeq (sFor (iSeq (eC (.tuple [(.int 2), (.int 3), (.int 5), (.int 7)]))) (gN 1) (k_primes_in_l2 w)) (sRet (eMove 2))))
def k_primes_in_b : Fx Fl := k_primes_in_b_w wfl
def k_primes_in : Fn := callFn 4 (k_primes_in_b)
def k_rank_of_rest_b (f_primes_in : Fn) : Fx Fl := (sSeq (sIf (eB (eOp gEq (eVar 0) (eC (.tuple [])))) (sRet (rV (eC (.int 12)))) sSkip) (sRet (eIf (eB (eOp gEq (eItemN 0 (eC (.int 1))) (eC (.int 0)))) (rV (eC (.int 11))) (eCall f_primes_in (aVal (eItemN 0 (eC (.int 1))) aNil)))))
def k_rank_of_rest (f_primes_in : Fn) : Fn := callFn 1 (k_rank_of_rest_b f_primes_in)
def k_rest_rank_b (f_rank_of_rest f_check_rest : Fn) : Fx Fl := (sSeq (sExpr (eCall f_check_rest (aVal (eVar 0) aNil))) (sRet (eCall f_rank_of_rest (aVal (eVar 0) aNil))))
def k_rest_rank (f_rank_of_rest f_check_rest : Fn) : Fn := callFn 1 (k_rest_rank_b f_rank_of_rest f_check_rest)
def k__law_rank_v2_l1 : Fx Fl := (sIf (eB (eOp gEq (eOp gMod (eBlt gInt (dCons (eVar 2) dNil)) (eVar 1)) (eC (.int 0)))) (sPar [2, 3] (aR (rV (eOp gFdiv (eVar 2) (eVar 1))) (aR (rV (eOp gAdd (eVar 3) (eC (.int 1)))) aNil))) sSkip)
def k__law_rank_v2_l2 : Fx Fl := (sFor (iRange1 (eC (.int 6))) (gN 4) k__law_rank_v2_l1)
def k__law_rank_v2_b : Fx Fl := (sSeq (sIf (eOrT (eB (eOp gEq (eVar 0) (eTup dNil))) (eB (eOp gEq (eItemN 0 (eC (.int 1))) (eC (.int 0))))) (sRet (eIf (eB (eOp gEq (eVar 0) (eTup dNil))) (rV (eC (.int 12))) (rV (eC (.int 11))))) sSkip) (sSeq (sPar [2, 3] (aR (rV (eItemN 0 (eC (.int 1)))) (aR (rV (eC (.int 0))) aNil))) (sSeq (sFor (iSeq (eTup (dCons (eC (.int 2)) (dCons (eC (.int 3)) (dCons (eC (.int 5)) (dCons (eC (.int 7)) dNil)))))) (gN 1) k__law_rank_v2_l2) (sRet (eMove 3)))))
def k__law_rank_v2 : Fn := callFn 5 (k__law_rank_v2_b)
def k__law_more_b (f__law_take f__law_pick f__law_number f__law_rest f__law_rest_near : Fn) : Fx Fl := (sSeq (sIf (eB (eOp gEq (eVar 1) (eTup dNil))) (sRet (eIf (eB (eOp gGt (eFz (eCall f__law_take (aSlot 0 (aVal (eC (.int 8)) aNil)))) (eC (.int 0)))) (rV (eTup (dCons (eFz (eCall f__law_number (aSlot 0 aNil))) (dCons (eC (.int 0)) dNil)))) (eCall f__law_rest (aSlot 0 aNil)))) sSkip) (sSeq (sSet 2 (eCall f__law_take (aSlot 0 (aVal (eC (.int 5)) aNil)))) (sSeq (sIf (eB (eOp gEq (eVar 2) (eC (.int 0)))) (sRet (eCall f__law_rest_near (aSlot 0 (aVal (eVar 1) aNil)))) sSkip) (sSeq (sIf (eB (eOp gEq (eVar 2) (eC (.int 1)))) (sRet (rV (eTup (dCons (eOp gAdd (eItemN 1 (eC (.int 0))) (eOp gMul (eItemN 1 (eC (.int 1))) (eOp gSub (eFz (eCall f__law_take (aSlot 0 (aVal (eC (.int 5)) aNil)))) (eC (.int 2))))) (dCons (eC (.int 0)) dNil))))) sSkip) (sSeq (sSet 3 (eIf (eB (eOp gGt (eItemN 1 (eC (.int 1))) (eC (.int 0)))) (rV (eItemN 1 (eC (.int 1)))) (eCall f__law_pick (aSlot 0 (aVal (eTup (dCons (eC (.int 20160)) (dCons (eC (.int 40320)) (dCons (eC (.int 60480)) (dCons (eOp gMul (eC (.int 20160)) (eC (.int 11))) (dCons (eC (.int 10080)) (dCons (eC (.int 6720)) dNil))))))) aNil))))) (sRet (rV (eTup (dCons (eOp gAdd (eItemN 1 (eC (.int 0))) (eOp gFdiv (eVar 3) (eFz (eCall f__law_pick (aSlot 0 (aVal (eTup (dCons (eC (.int 1)) (dCons (eC (.int 2)) (dCons (eC (.int 2)) (dCons (eC (.int 2)) (dCons (eC (.int 3)) (dCons (eC (.int 5)) (dCons (eC (.int 7)) dNil)))))))) aNil)))))) (dCons (eC (.int 0)) dNil))))))))))
def k__law_more (f__law_take f__law_pick f__law_number f__law_rest f__law_rest_near : Fn) : Fn := callFn 4 (k__law_more_b f__law_take f__law_pick f__law_number f__law_rest f__law_rest_near)
def k__law_two_right_v10_b (f_rest_within f_rest_joined f_rest_rank f__law_same f__law_least f__law_two_of f__law_rest_inside f__law_rank : Fn) : Fx Fl := (sSeq (sSet 2 (eCall f__law_least (aVal (eOp gAdd (eFz (eCall f__law_two_of (aVal (eVar 0) aNil))) (eFz (eCall f__law_two_of (aVal (eVar 1) aNil)))) aNil))) (sSeq (sIf (eNotT (eTru (eFz (eCall f__law_same (aVal (eTup (dCons (eFz (eCall f_rest_joined (aVal (eVar 0) (aVal (eVar 1) aNil)))) (dCons (eFz (eCallK f_rest_joined 0 2 [1, 0] dNil (dCons (eVar 1) (dCons (eVar 0) dNil)))) dNil))) (aVal (eTup (dCons (eVar 2) (dCons (eVar 2) dNil))) aNil)))))) (sRet (rV (eC (.bool false)))) sSkip) (sSeq (sSet 3 (rV (eTup (dCons (eFz (eCall f_rest_rank (aVal (eVar 0) aNil))) (dCons (eFz (eCallK f_rest_rank 0 1 [0] dNil (dCons (eVar 2) dNil))) dNil))))) (sSeq (sIf (eNotT (eTru (eFz (eCall f__law_same (aVal (eVar 3) (aVal (eTup (dCons (eFz (eCall f__law_rank (aVal (eVar 0) aNil))) (dCons (eFz (eCall f__law_rank (aVal (eVar 2) aNil))) dNil))) aNil)))))) (sRet (rV (eC (.bool false)))) sSkip) (sSeq (sSet 4 (eCall f__law_rest_inside (aVal (eVar 1) (aVal (eVar 0) aNil)))) (sSeq (sIf (eNotT (eTru (eFz (eCall f__law_same (aVal (eTup (dCons (eFz (eCall f_rest_within (aVal (eVar 1) (aVal (eVar 0) aNil)))) (dCons (eFz (eCall f_rest_within (aVal (eVar 0) (aVal (eVar 2) aNil)))) (dCons (eFz (eCall f_rest_within (aVal (eVar 1) (aVal (eVar 2) aNil)))) dNil)))) (aVal (eTup (dCons (eVar 4) (dCons (eC (.bool true)) (dCons (eC (.bool true)) dNil)))) aNil)))))) (sRet (rV (eC (.bool false)))) sSkip) (sRet (eIf (eTru (eVar 4)) (rV (eOp gEq (eVar 2) (eVar 0))) (rV (eOp gLt (eItemN 3 (eC (.int 1))) (eItemN 3 (eC (.int 0)))))))))))))
def k__law_two_right_v10 (f_rest_within f_rest_joined f_rest_rank f__law_same f__law_least f__law_two_of f__law_rest_inside f__law_rank : Fn) : Fn := callFn 5 (k__law_two_right_v10_b f_rest_within f_rest_joined f_rest_rank f__law_same f__law_least f__law_two_of f__law_rest_inside f__law_rank)
def k__law_row_right_v2_l1 (f_rest_joined f__law_more f__law_two_right : Fn) : Fx Fl := (sSeq (sSet 4 (eCall f__law_more (aSlot 0 (aVal (eVar 2) aNil)))) (sSeq (sIf (eNotT (eTru (eFz (eCall f__law_two_right (aVal (eVar 2) (aVal (eVar 4) aNil)))))) (sRet (rV (eC (.bool false)))) sSkip) (sSeq (sSet 5 (eCall f_rest_joined (aVal (eVar 2) (aVal (eVar 4) aNil)))) (sSeq (sSet 3 (rV (eOp gAdd (eVar 3) (eIf (eB (eOp gNe (eVar 5) (eVar 2))) (eC (.int 1)) (eC (.int 0)))))) (sSet 2 (eMove 5))))))
def k__law_row_right_v2_b (f_rest_joined f__law_take f__law_more f__law_two_right : Fn) : Fx Fl := (sSeq (sAsg (eTup (dCons (eTup dNil) (dCons (eC (.int 0)) dNil))) (gTup 2 (gsCons (gN 2) (gsCons (gN 3) gsNil)))) (sSeq (sFor (iRange1 (eOp gAdd (eC (.int 6)) (eFz (eCall f__law_take (aSlot 0 (aVal (eC (.int 15)) aNil)))))) (gN 1) (k__law_row_right_v2_l1 f_rest_joined f__law_more f__law_two_right)) (sRet (rV (eOp gLe (eVar 3) (eC (.int 12)))))))
def k__law_row_right_v2 (f_rest_joined f__law_take f__law_more f__law_two_right : Fn) : Fn := callFn 6 (k__law_row_right_v2_b f_rest_joined f__law_take f__law_more f__law_two_right)
def k__law_right_v11_b (f_rest_rank f__law_rest f__law_rest_near f__law_rest_inside f__law_two_right f__law_row_right : Fn) : Fx Fl := (sSeq (sIf (eNotT (eTru (eFz (eCall f__law_row_right (aSlot 0 aNil))))) (sRet (rV (eC (.bool false)))) sSkip) (sSeq (sSet 1 (eCall f__law_rest (aSlot 0 aNil))) (sSeq (sSet 2 (eCall f__law_rest_near (aSlot 0 (aVal (eVar 1) aNil)))) (sSeq (sIf (eOrT (eNotT (eTru (eFz (eCall f__law_two_right (aVal (eVar 1) (aVal (eVar 2) aNil)))))) (eNotT (eTru (eFz (eCall f__law_two_right (aVal (eVar 2) (aVal (eVar 1) aNil))))))) (sRet (rV (eC (.bool false)))) sSkip) (sRet (rV (eOr (eOp gEq (eVar 1) (eVar 2)) (eOr (eNot (eFz (eCall f__law_rest_inside (aVal (eVar 1) (aVal (eVar 2) aNil))))) (eOp gGt (eFz (eCall f_rest_rank (aVal (eVar 1) aNil))) (eFz (eCall f_rest_rank (aVal (eVar 2) aNil))))))))))))
def k__law_right_v11 (f_rest_rank f__law_rest f__law_rest_near f__law_rest_inside f__law_two_right f__law_row_right : Fn) : Fn := callFn 3 (k__law_right_v11_b f_rest_rank f__law_rest f__law_rest_near f__law_rest_inside f__law_two_right f__law_row_right)
def k_first_from_b : Fx Fl := (sRet (eIf (eB (eOp gIs (eVar 0) (eC .none))) (rV (eC .none)) (rV (eOp gAdd (eVar 0) (eOp gMod (eOp gSub (eItemN 1 (eC (.int 0))) (eVar 0)) (eItemN 1 (eC (.int 1))))))))
def k_first_from : Fn := callFn 2 (k_first_from_b)
def k_last_up_to_b : Fx Fl := (sRet (eIf (eB (eOp gIs (eVar 0) (eC .none))) (rV (eC .none)) (rV (eOp gSub (eVar 0) (eOp gMod (eOp gSub (eVar 0) (eItemN 1 (eC (.int 0)))) (eItemN 1 (eC (.int 1))))))))
def k_last_up_to : Fn := callFn 2 (k_last_up_to_b)
def k_settled_by_b (f_met_stretch f_first_from f_last_up_to : Fn) : Fx Fl := (sSeq (sIf (eOrT (eB (eOp gEq (eVar 0) (eC (.tuple [])))) (eB (eOp gEq (eVar 1) (eC (.tuple []))))) (sRet (rV (eTup (dCons (eC (.tuple [])) (dCons (eC (.tuple [])) dNil))))) sSkip) (sSeq (sIf (eB (eOp gEq (eItemN 1 (eC (.int 1))) (eC (.int 0)))) (sSeq (sSet 2 (eCall f_met_stretch (aVal (eVar 0) (aVal (eTup (dCons (eItemN 1 (eC (.int 0))) (dCons (eItemN 1 (eC (.int 0))) dNil))) aNil)))) (sRet (eIf (eB (eOp gNe (eVar 2) (eC (.tuple [])))) (rV (eTup (dCons (eVar 2) (dCons (eVar 1) dNil)))) (rV (eTup (dCons (eC (.tuple [])) (dCons (eC (.tuple [])) dNil))))))) sSkip) (sSeq (sPar [3, 4] (aR (eCall f_first_from (aVal (eItemN 0 (eC (.int 0))) (aVal (eVar 1) aNil))) (aR (eCall f_last_up_to (aVal (eItemN 0 (eC (.int 1))) (aVal (eVar 1) aNil))) aNil))) (sSeq (sIf (eAndT (eB (eOp gIsNot (eVar 3) (eC .none))) (eAndT (eB (eOp gIsNot (eVar 4) (eC .none))) (eB (eOp gGe (eVar 3) (eVar 4))))) (sRet (eIf (eB (eOp gEq (eVar 3) (eVar 4))) (rV (eTup (dCons (eTup (dCons (eVar 3) (dCons (eVar 3) dNil))) (dCons (eTup (dCons (eVar 3) (dCons (eC (.int 0)) dNil))) dNil)))) (rV (eTup (dCons (eC (.tuple [])) (dCons (eC (.tuple [])) dNil)))))) sSkip) (sRet (rV (eTup (dCons (eTup (dCons (eVar 3) (dCons (eVar 4) dNil))) (dCons (eVar 1) dNil)))))))))
def k_settled_by (f_met_stretch f_first_from f_last_up_to : Fn) : Fn := callFn 5 (k_settled_by_b f_met_stretch f_first_from f_last_up_to)
def k_settled_b (f_settled_by f_check_stretch f_check_rest : Fn) : Fx Fl := (sSeq (sExpr (eCall f_check_stretch (aVal (eVar 0) aNil))) (sSeq (sExpr (eCall f_check_rest (aVal (eVar 1) aNil))) (sRet (eCall f_settled_by (aVal (eVar 0) (aVal (eVar 1) aNil))))))
def k_settled (f_settled_by f_check_stretch f_check_rest : Fn) : Fn := callFn 2 (k_settled_b f_settled_by f_check_stretch f_check_rest)
def k__law_rest_at_b (f__law_take f__law_pick f__law_in f__law_part f__law_rest : Fn) : Fx Fl := (sSeq (sIf (eOrT (eB (eOp gEq (eVar 1) (eTup dNil))) (eB (eOp gEq (eFz (eCall f__law_take (aSlot 0 (aVal (eC (.int 5)) aNil)))) (eC (.int 0))))) (sRet (eCall f__law_rest (aSlot 0 aNil))) sSkip) (sSeq (sSet 2 (rV (eOp gAdd (eFz (eCall f__law_in (aSlot 0 (aVal (eVar 1) aNil)))) (eFz (eCall f__law_pick (aSlot 0 (aVal (eTup (dCons (eC (.int 0)) (dCons (eC (.int 0)) (dCons (eC (.int 0)) (dCons (eC (.int 1)) (dCons (eNeg (eC (.int 1))) dNil)))))) aNil))))))) (sSeq (sIf (eB (eOp gEq (eFz (eCall f__law_take (aSlot 0 (aVal (eC (.int 5)) aNil)))) (eC (.int 0)))) (sRet (rV (eTup (dCons (eVar 2) (dCons (eC (.int 0)) dNil))))) sSkip) (sSeq (sSet 3 (eCall f__law_part (aSlot 0 aNil))) (sRet (rV (eTup (dCons (eOp gMod (eBlt gInt (dCons (eVar 2) dNil)) (eVar 3)) (dCons (eVar 3) dNil)))))))))
def k__law_rest_at (f__law_take f__law_pick f__law_in f__law_part f__law_rest : Fn) : Fn := callFn 4 (k__law_rest_at_b f__law_take f__law_pick f__law_in f__law_part f__law_rest)
def k__law_settled_b (f__law_has : Fn) : Fx Fl := (sSeq (sIf (eOrT (eB (eOp gEq (eVar 0) (eTup dNil))) (eOrT (eB (eOp gEq (eVar 1) (eTup dNil))) (eAndT (eB (eOp gEq (eItemN 1 (eC (.int 1))) (eC (.int 0)))) (eNotT (eTru (eFz (eCall f__law_has (aVal (eVar 0) (aVal (eItemN 1 (eC (.int 0))) aNil))))))))) (sRet (rV (eTup (dCons (eTup dNil) (dCons (eTup dNil) dNil))))) sSkip) (sSeq (sIf (eB (eOp gEq (eItemN 1 (eC (.int 1))) (eC (.int 0)))) (sRet (rV (eTup (dCons (eTup (dCons (eItemN 1 (eC (.int 0))) (dCons (eItemN 1 (eC (.int 0))) dNil))) (dCons (eVar 1) dNil))))) sSkip) (sSeq (sSet 2 (eIf (eB (eOp gIs (eItemN 0 (eC (.int 0))) (eC .none))) (rV (eC .none)) (rV (eOp gAdd (eItemN 0 (eC (.int 0))) (eOp gMod (eBlt gInt (dCons (eOp gSub (eItemN 1 (eC (.int 0))) (eItemN 0 (eC (.int 0)))) dNil)) (eItemN 1 (eC (.int 1)))))))) (sSeq (sSet 3 (eIf (eB (eOp gIs (eItemN 0 (eC (.int 1))) (eC .none))) (rV (eC .none)) (rV (eOp gSub (eItemN 0 (eC (.int 1))) (eOp gMod (eBlt gInt (dCons (eOp gSub (eItemN 0 (eC (.int 1))) (eItemN 1 (eC (.int 0)))) dNil)) (eItemN 1 (eC (.int 1)))))))) (sSeq (sIf (eOrT (eB (eOp gIs (eVar 2) (eC .none))) (eOrT (eB (eOp gIs (eVar 3) (eC .none))) (eB (eOp gLt (eVar 2) (eVar 3))))) (sRet (rV (eTup (dCons (eTup (dCons (eVar 2) (dCons (eVar 3) dNil))) (dCons (eVar 1) dNil))))) sSkip) (sRet (eIf (eB (eOp gEq (eVar 2) (eVar 3))) (rV (eTup (dCons (eTup (dCons (eVar 2) (dCons (eVar 3) dNil))) (dCons (eTup (dCons (eVar 2) (dCons (eC (.int 0)) dNil))) dNil)))) (rV (eTup (dCons (eTup dNil) (dCons (eTup dNil) dNil)))))))))))
def k__law_settled (f__law_has : Fn) : Fn := callFn 4 (k__law_settled_b f__law_has)
def k__law_tried_v5_b (f__law_rest_has f__law_least : Fn) : Fx Fl := (sSeq (sSet 2 (eComp (iRange2 (eItemN 0 (eC (.int 0))) (eOp gAdd (eItemN 0 (eC (.int 1))) (eC (.int 1)))) (gN 3) (eTru (eFz (eCall f__law_rest_has (aVal (eVar 1) (aVal (eVar 3) aNil))))) (eVar 3) [3])) (sRet (rV (eTup (dCons (eIf (eB (eOp gNe (eVar 2) (eFz (eLst dNil)))) (eTup (dCons (eBlt gMin (dCons (eVar 2) dNil)) (dCons (eBlt gMax (dCons (eVar 2) dNil)) dNil))) (eTup dNil)) (dCons (eFz (eCall f__law_least (aVal (eVar 2) aNil))) dNil))))))
def k__law_tried_v5 (f__law_rest_has f__law_least : Fn) : Fn := callFn 4 (k__law_tried_v5_b f__law_rest_has f__law_least)
def k__law_numbers_l1 : Fx Fl := (sIf (eB (eOp gIsNot (eVar 4) (eC .none))) (sSet 3 (eAddR (eVar 3) (eFz (eLst (dCons (eOp gSub (eVar 4) (eC (.int 1))) (dCons (eVar 4) (dCons (eOp gAdd (eVar 4) (eC (.int 1))) dNil))))))) sSkip)
def k__law_numbers_l2 (f__law_in : Fn) : Fx Fl := (sApp 3 (eFz (eCall f__law_in (aSlot 0 (aVal (eVar 1) aNil)))))
def k__law_numbers_b (f__law_number f__law_in : Fn) : Fx Fl := (sSeq (sSet 3 (eLst (dCons (eFz (eCall f__law_number (aSlot 0 aNil))) (dCons (eC (.int 0)) dNil)))) (sSeq (sFor (iSeq (eVar 1)) (gN 4) k__law_numbers_l1) (sSeq (sIf (eB (eOp gNe (eVar 2) (eTup dNil))) (sSet 3 (eAddR (eVar 3) (eFz (eLst (dCons (eItemN 2 (eC (.int 0))) (dCons (eOp gAdd (eItemN 2 (eC (.int 0))) (eItemN 2 (eC (.int 1)))) (dCons (eOp gSub (eItemN 2 (eC (.int 0))) (eItemN 2 (eC (.int 1)))) dNil))))))) sSkip) (sSeq (sIf (eB (eOp gNe (eVar 1) (eTup dNil))) (sFor (iRange1 (eC (.int 3))) (gN 5) (k__law_numbers_l2 f__law_in)) sSkip) (sRet (eMove 3))))))
def k__law_numbers (f__law_number f__law_in : Fn) : Fn := callFn 6 (k__law_numbers_b f__law_number f__law_in)
def k__law_pair_right_l1 (f_rest_holds f_stretch_holds f__law_same f__law_has f__law_rest_has : Fn) : Fx Fl := (sSeq (sSet 7 (rV (eAnd (eFz (eCall f__law_has (aVal (eVar 0) (aVal (eVar 6) aNil)))) (eFz (eCall f__law_rest_has (aVal (eVar 1) (aVal (eVar 6) aNil))))))) (sSeq (sSet 8 (rV (eTup (dCons (eAnd (eFz (eCall f_stretch_holds (aVal (eItemN 4 (eC (.int 0))) (aVal (eVar 6) aNil)))) (eFz (eCall f_rest_holds (aVal (eItemN 4 (eC (.int 1))) (aVal (eVar 6) aNil))))) dNil)))) (sIf (eNotT (eTru (eFz (eCall f__law_same (aVal (eVar 8) (aVal (eTup (dCons (eVar 7) dNil)) aNil)))))) (sRet (rV (eC (.bool false)))) sSkip)))
def k__law_pair_right_b (f_rest_holds f_rest_within f_settled f_stretch_holds f_stretch_within f__law_same f__law_has f__law_rest_has f__law_settled f__law_tried : Fn) : Fx Fl := (sSeq (sSet 3 (eCall f__law_settled (aVal (eVar 0) (aVal (eVar 1) aNil)))) (sSeq (sSet 4 (eCall f_settled (aVal (eVar 0) (aVal (eVar 1) aNil)))) (sSeq (sIf (eNotT (eTru (eFz (eCall f__law_same (aVal (eTup (dCons (eVar 4) (dCons (eFz (eCallK f_settled 0 2 [1, 0] dNil (dCons (eVar 1) (dCons (eVar 0) dNil)))) dNil))) (aVal (eTup (dCons (eVar 3) (dCons (eVar 3) dNil))) aNil)))))) (sRet (rV (eC (.bool false)))) sSkip) (sSeq (sIf (eNotT (eTru (eFz (eCall f__law_same (aVal (eFz (eCall f_settled (aVal (eItemN 4 (eC (.int 0))) (aVal (eItemN 4 (eC (.int 1))) aNil)))) (aVal (eVar 3) aNil)))))) (sRet (rV (eC (.bool false)))) sSkip) (sSeq (sSet 5 (rV (eAnd (eOp gNe (eVar 0) (eTup dNil)) (eAnd (eOp gIsNot (eItemN 0 (eC (.int 0))) (eC .none)) (eAnd (eOp gIsNot (eItemN 0 (eC (.int 1))) (eC .none)) (eOp gLt (eOp gSub (eItemN 0 (eC (.int 1))) (eItemN 0 (eC (.int 0)))) (eC (.int 60)))))))) (sSeq (sIf (eAndT (eTru (eVar 5)) (eNotT (eTru (eFz (eCall f__law_same (aVal (eVar 4) (aVal (eFz (eCall f__law_tried (aVal (eVar 0) (aVal (eVar 1) aNil)))) aNil))))))) (sRet (rV (eC (.bool false)))) sSkip) (sSeq (sFor (iSeq (eVar 2)) (gN 6) (k__law_pair_right_l1 f_rest_holds f_stretch_holds f__law_same f__law_has f__law_rest_has)) (sRet (eCall f__law_same (aVal (eTup (dCons (eFz (eCall f_stretch_within (aVal (eItemN 4 (eC (.int 0))) (aVal (eVar 0) aNil)))) (dCons (eFz (eCall f_rest_within (aVal (eItemN 4 (eC (.int 1))) (aVal (eVar 1) aNil)))) dNil))) (aVal (eTup (dCons (eC (.bool true)) (dCons (eC (.bool true)) dNil))) aNil)))))))))))
def k__law_pair_right (f_rest_holds f_rest_within f_settled f_stretch_holds f_stretch_within f__law_same f__law_has f__law_rest_has f__law_settled f__law_tried : Fn) : Fn := callFn 9 (k__law_pair_right_b f_rest_holds f_rest_within f_settled f_stretch_holds f_stretch_within f__law_same f__law_has f__law_rest_has f__law_settled f__law_tried)
def k__law_right_v12_b (f__law_stretch f__law_near f__law_rest_at f__law_numbers f__law_pair_right : Fn) : Fx Fl := (sSeq (sSet 1 (eCall f__law_stretch (aSlot 0 aNil))) (sSeq (sSet 2 (eCall f__law_rest_at (aSlot 0 (aVal (eVar 1) aNil)))) (sSeq (sIf (eNotT (eTru (eFz (eCall f__law_pair_right (aVal (eVar 1) (aVal (eVar 2) (aVal (eFz (eCall f__law_numbers (aSlot 0 (aVal (eVar 1) (aVal (eVar 2) aNil))))) aNil))))))) (sRet (rV (eC (.bool false)))) sSkip) (sSeq (sSet 3 (eCall f__law_near (aSlot 0 (aVal (eOp gAdd (eVar 1) (eFz (eSlice (eVar 2) (ePart none) (ePart (some (eC (.int 1))))))) aNil)))) (sRet (eCall f__law_pair_right (aVal (eVar 3) (aVal (eVar 2) (aVal (eFz (eCall f__law_numbers (aSlot 0 (aVal (eVar 3) (aVal (eVar 2) aNil))))) aNil)))))))))
def k__law_right_v12 (f__law_stretch f__law_near f__law_rest_at f__law_numbers f__law_pair_right : Fn) : Fn := callFn 4 (k__law_right_v12_b f__law_stretch f__law_near f__law_rest_at f__law_numbers f__law_pair_right)
end Ev
namespace Ev
local macro_rules
  | `(tactic| simp! only [$as,*]) => `(tactic| simp only [↓x_var, ↓x_C, ↓x_op, ↓x_fz, ↓x_rV, ↓x_B, ↓x_chain, ↓x_tru, ↓x_notT, ↓x_andT, ↓x_orT, ↓x_and, ↓x_or, ↓x_not, ↓x_neg, ↓x_if, ↓x_aNil, ↓x_aVal, ↓x_aSlot, ↓x_aTmp, ↓x_aR, ↓x_call, ↓x_callK, ↓x_dNil, ↓x_dCons, ↓x_tup, ↓x_lst, ↓x_itemN, ↓x_ownItem, ↓x_lenN, ↓x_blt, ↓x_isi, ↓x_list, ↓x_rgL1, ↓x_rgL2, ↓x_iSeq, ↓x_iZip, ↓x_range1, ↓x_range2, ↓x_addR, ↓x_slice, ↓x_partN, ↓x_partS, ↓x_comp, ↓x_skip, ↓x_stuck, ↓x_break, ↓x_cont, ↓x_seq, ↓x_sIf, ↓x_sExpr, ↓x_ret, ↓x_retN, ↓x_move, ↓x_setRv, ↓x_setRf, ↓x_set, ↓x_gN, ↓x_gsNil, ↓x_gsCons, ↓x_gTup, ↓x_gIx, ↓x_setAt, ↓x_asg, ↓x_par, ↓x_sm0, ↓x_smV, ↓x_smF, ↓x_app, ↓x_for, ↓x_for0, ↓x_for1, ↓x_comp0, ↓x_comp1, ↓x_fn, ↓x_iEnum, ↓x_range3, ↓x_comp2, ↓x_compN0, ↓x_compN1, q_addI, q_addT, q_addL, q_subI, q_ltI, q_leI, q_gtI, q_geI, q_isN, q_isNotN, q_eqI, q_neI, q_eqB, q_eqT0, q_eqT1, q_neT0, q_neT1, q_eqL0, q_eqL1, q_neL0, q_neL1, q_int, q_abs, q_min2, q_max2, q_at0, q_at1, q_at2, q_at3, q_ix0, q_ix1, q_ix2, q_sz, q_iteS, q_iteT, q_iteR, q_iteV, q_iteBB, q_iteII, q_iteAnd, q_iteOr, q_iteNot, q_iteCon, q_pa0, q_pa1, q_pa2, q_pa3, q_ow0, q_ow1, q_ow2, q_ow3, q_c0, q_c1, q_c2, q_c3, q_c4, q_c5, q_c6, q_c7, q_c8, q_c9, q_c10, q_c11, q_c12, q_all0, q_all1, q_all2, q_all3, q_inN2, q_inN0, q_02a, q_02b, List.getElem?_cons_zero, List.getElem?_cons_succ, List.set_cons_zero, List.set_cons_succ, wipeE, initE, outsOf, toAv, slotsOf, putOuts, natNodup, List.map_cons, List.map_nil, List.cons_append, List.nil_append, List.append_nil, List.replicate, List.length_cons, List.length_nil, isNone, isiD, seqD, gItem, truD, zipOf, zipD, pick, List.contains_nil, List.contains_cons, eq_self, if_true, if_false, Bool.false_eq_true, Bool.true_eq_false, Bool.not_true, Bool.not_false, reduceIte, decide_true, decide_false, Nat.reduceAdd, Nat.reduceSub, Nat.zero_add, Nat.add_zero, and_self, true_and, and_true, Bool.and_true, Bool.true_and, Bool.or_false, Bool.false_or, Bool.or_true, Bool.true_or, Bool.and_false, Bool.false_and, Bool.or_self, Bool.and_self, Nat.sub_self, Option.map_some, Option.map_none, Nat.reduceBEq, Bool.not_eq_true, beq_self_eq_true, Nat.reduceLeDiff, Nat.reduceLT, Nat.reduceEqDiff, List.filterMap_cons, List.filterMap_nil, $as,*])
open PySem PySem.Spec PyProof.Rows L2
theorem k_take_ok : Tk k__law_take := take_ok
theorem k_great_ok {t : Fn} (T : Tk t) : Nm 5 (2 ^ 110) (k__law_great t) := great_ok T
theorem k_number_ok {t gr : Fn} (T : Tk t) (G : Nm 5 (2 ^ 110) gr) : Nm 7 (2 ^ 110) (k__law_number t gr) := number_ok T G
/-! ## stretches -/
abbrev EE := Option Int
abbrev SS := Option (EE × EE)
def eE : EE → D
  | none => .none
  | some i => .int i
def eS : SS → D
  | none => .tuple []
  | some (l, h) => .tuple [eE l, eE h]
def lowW : EE → EE → Bool
  | _, none => true
  | none, some _ => false
  | some l, some o => decide (o ≤ l)
def highW : EE → EE → Bool
  | _, none => true
  | none, some _ => false
  | some l, some o => decide (l ≤ o)
def leE : EE → EE → Bool
  | none, _ => true
  | _, none => true
  | some l, some h => decide (l ≤ h)
def okS : SS → Bool
  | none => true
  | some (l, h) => leE l h
def hasS : SS → Int → Bool
  | none, _ => false
  | some (l, h), k => leE l (some k) && leE (some k) h
def withinS : SS → SS → Bool
  | none, _ => true
  | some _, none => false
  | some (a, b), some (c, d) => lowW a c && highW b d
def minE : EE → EE → EE
  | some a, some b => some (min a b)
  | _, _ => none
def maxE : EE → EE → EE
  | some a, some b => some (max a b)
  | _, _ => none
/-- the greater of two low ends, the lesser of two high ends -/
def lowM : EE → EE → EE
  | none, b => b
  | a, none => a
  | some a, some b => some (max a b)
def highM : EE → EE → EE
  | none, b => b
  | a, none => a
  | some a, some b => some (min a b)
def joinS : SS → SS → SS
  | none, b => b
  | a, none => a
  | some (a, b), some (c, d) => some (minE a c, maxE b d)
def meetS : SS → SS → SS
  | some (a, b), some (c, d) => if leE (lowM a c) (highM b d) = true then some (lowM a c, highM b d) else none
  | _, _ => none
theorem eS_n : eS none = .tuple [] := rfl
theorem eS_s {l h : EE} : eS (some (l, h)) = .tuple [eE l, eE h] := rfl
theorem eS_i {b : Bool} {l h : EE} [Decidable (b = true)] : eS (if b = true then some (l, h) else none) = if b = true then .tuple [eE l, eE h] else .tuple [] := by cases b <;> simp [eS]
theorem isNone_eE : ∀ x : EE, isNone (eE x) = x.isNone
  | none => rfl
  | some _ => rfl
section
variable {f g h w : Fn}
def BoolOf (g : Fn) (avs : List AV) (b : Bool) : Prop := g avs = some (.val (.bool b), [])
theorem k_whole_ok (i : Int) : k_is_whole [.val (.int i)] = some (.val (.bool true), []) := rfl
theorem k_end_ok (hw : ∀ i, w [.val (.int i)] = some (.val (.bool true), [])) (x : EE) : k_is_end w [.val (eE x)] = some (.val (.bool true), []) := by
  cases x with
  | none => rfl
  | some i => simp! only [k_is_end, k_is_end_b, eE, hw]
theorem k_stretched_ok (hw : ∀ x, w [.val (eE x)] = some (.val (.bool true), [])) (a : SS) : k_is_stretched w [.val (eS a)] = some (.val (.bool (okS a)), []) := by
  rcases a with _ | ⟨_ | l, _ | h⟩ <;> simp! only [k_is_stretched, k_is_stretched_b, eS_n, eS_s, eS_i, hw, okS]
  all_goals simp! only [eE, leE]
theorem k_held_ok (a : SS) (k : Int) : k_is_held [.val (eS a), .val (.int k)] = some (.val (.bool (hasS a k)), []) := by
  rcases a with _ | ⟨_ | l, _ | h⟩ <;> simp! only [k_is_held, k_is_held_b, eS_n, eS_s, eS_i, eE, hasS, leE]
theorem k_low_ok (a b : EE) : k_is_low_within [.val (eE a), .val (eE b)] = some (.val (.bool (lowW a b)), []) := by
  cases a <;> cases b <;> rfl
theorem k_high_ok (a b : EE) : k_is_high_within [.val (eE a), .val (eE b)] = some (.val (.bool (highW a b)), []) := by
  cases a <;> cases b <;> rfl
theorem k_within_ok (hl : ∀ a b, f [.val (eE a), .val (eE b)] = some (.val (.bool (lowW a b)), [])) (hh : ∀ a b, h [.val (eE a), .val (eE b)] = some (.val (.bool (highW a b)), [])) (a b : SS) :
    k_is_stretch_within f h [.val (eS a), .val (eS b)] = some (.val (.bool (withinS a b)), []) := by
  rcases a with _ | ⟨a1, a2⟩ <;> rcases b with _ | ⟨b1, b2⟩ <;> simp! only [k_is_stretch_within, k_is_stretch_within_b, eS_n, eS_s, eS_i, hl, hh, withinS]
theorem low_join (a b : EE) : (if lowW a b = true then b else a) = minE a b := by
  rcases a with _ | a <;> rcases b with _ | b <;> simp [lowW, minE]
  split <;> simp <;> omega
theorem high_join (a b : EE) : (if highW a b = true then b else a) = maxE a b := by
  rcases a with _ | a <;> rcases b with _ | b <;> simp [highW, maxE]
  split <;> simp <;> omega
theorem low_meet (a b : EE) : (if lowW a b = true then a else b) = lowM a b := by
  rcases a with _ | a <;> rcases b with _ | b <;> simp [lowW, lowM]
  split <;> simp <;> omega
theorem high_meet (a b : EE) : (if highW a b = true then a else b) = highM a b := by
  rcases a with _ | a <;> rcases b with _ | b <;> simp [highW, highM]
  split <;> simp <;> omega
theorem k_joined_ok (hl : ∀ a b, f [.val (eE a), .val (eE b)] = some (.val (.bool (lowW a b)), [])) (hh : ∀ a b, h [.val (eE a), .val (eE b)] = some (.val (.bool (highW a b)), [])) (a b : SS) :
    k_joined_stretch f h [.val (eS a), .val (eS b)] = some (.val (eS (joinS a b)), []) := by
  rcases a with _ | ⟨a1, a2⟩ <;> rcases b with _ | ⟨b1, b2⟩
  · simp! only [k_joined_stretch, k_joined_stretch_b, eS_n, eS_s, eS_i, joinS]
  · simp! only [k_joined_stretch, k_joined_stretch_b, eS_n, eS_s, eS_i, joinS]
  · simp! only [k_joined_stretch, k_joined_stretch_b, eS_n, eS_s, eS_i, joinS]
  have h1 := low_join a1 b1
  have h2 := high_join a2 b2
  cases ql : lowW a1 b1 <;> cases qh : highW a2 b2 <;> rw [ql] at h1 <;> rw [qh] at h2 <;> simp! only [k_joined_stretch, k_joined_stretch_b, hl, hh, ql, qh, eS_n, eS_s, eS_i, joinS, ← h1, ← h2]
theorem leE_eE (a b : EE) : (isNone (eE a) || (isNone (eE b) || (match gLe (eE a) (eE b) with | some (.bool b) => b | _ => false))) = leE a b := by
  cases a <;> cases b <;> rfl
theorem k_met_ok (hl : ∀ a b, f [.val (eE a), .val (eE b)] = some (.val (.bool (lowW a b)), [])) (hh : ∀ a b, h [.val (eE a), .val (eE b)] = some (.val (.bool (highW a b)), [])) (a b : SS) :
    k_met_stretch f h [.val (eS a), .val (eS b)] = some (.val (eS (meetS a b)), []) := by
  rcases a with _ | ⟨a1, a2⟩ <;> rcases b with _ | ⟨b1, b2⟩
  · simp! only [k_met_stretch, k_met_stretch_b, eS_n, eS_s, eS_i, meetS]
  · simp! only [k_met_stretch, k_met_stretch_b, eS_n, eS_s, eS_i, meetS]
  · simp! only [k_met_stretch, k_met_stretch_b, eS_n, eS_s, eS_i, meetS]
  have h1 := low_meet a1 b1
  have h2 := high_meet a2 b2
  cases ql : lowW a1 b1 <;> cases qh : highW a2 b2 <;> rw [ql] at h1 <;> rw [qh] at h2 <;> simp! only [k_met_stretch, k_met_stretch_b, hl, hh, ql, qh, eS_n, eS_s, eS_i, meetS, ← h1, ← h2]
  all_goals cases a1 <;> cases a2 <;> cases b1 <;> cases b2 <;> simp! only [eE, leE]
  all_goals (split <;> rename_i hz <;> simp only [hz, if_true, if_false, Bool.false_eq_true])
end
end Ev
namespace Ev
local macro_rules
  | `(tactic| simp! only [$as,*]) => `(tactic| simp only [↓x_var, ↓x_C, ↓x_op, ↓x_fz, ↓x_rV, ↓x_B, ↓x_chain, ↓x_tru, ↓x_notT, ↓x_andT, ↓x_orT, ↓x_and, ↓x_or, ↓x_not, ↓x_neg, ↓x_if, ↓x_aNil, ↓x_aVal, ↓x_aSlot, ↓x_aTmp, ↓x_aR, ↓x_call, ↓x_callK, ↓x_dNil, ↓x_dCons, ↓x_tup, ↓x_lst, ↓x_itemN, ↓x_ownItem, ↓x_lenN, ↓x_blt, ↓x_isi, ↓x_list, ↓x_rgL1, ↓x_rgL2, ↓x_iSeq, ↓x_iZip, ↓x_range1, ↓x_range2, ↓x_addR, ↓x_slice, ↓x_partN, ↓x_partS, ↓x_comp, ↓x_skip, ↓x_stuck, ↓x_break, ↓x_cont, ↓x_seq, ↓x_sIf, ↓x_sExpr, ↓x_ret, ↓x_retN, ↓x_move, ↓x_setRv, ↓x_setRf, ↓x_set, ↓x_gN, ↓x_gsNil, ↓x_gsCons, ↓x_gTup, ↓x_gIx, ↓x_setAt, ↓x_asg, ↓x_par, ↓x_sm0, ↓x_smV, ↓x_smF, ↓x_app, ↓x_for, ↓x_for0, ↓x_for1, ↓x_comp0, ↓x_comp1, ↓x_fn, ↓x_iEnum, ↓x_range3, ↓x_comp2, ↓x_compN0, ↓x_compN1, q_addI, q_addT, q_addL, q_subI, q_ltI, q_leI, q_gtI, q_geI, q_isN, q_isNotN, q_eqI, q_neI, q_eqB, q_eqT0, q_eqT1, q_neT0, q_neT1, q_eqL0, q_eqL1, q_neL0, q_neL1, q_int, q_abs, q_min2, q_max2, q_at0, q_at1, q_at2, q_at3, q_ix0, q_ix1, q_ix2, q_sz, q_iteS, q_iteT, q_iteR, q_iteV, q_iteBB, q_iteII, q_iteAnd, q_iteOr, q_iteNot, q_iteCon, q_pa0, q_pa1, q_pa2, q_pa3, q_ow0, q_ow1, q_ow2, q_ow3, q_c0, q_c1, q_c2, q_c3, q_c4, q_c5, q_c6, q_c7, q_c8, q_c9, q_c10, q_c11, q_c12, q_all0, q_all1, q_all2, q_all3, q_inN2, q_inN0, q_02a, q_02b, List.getElem?_cons_zero, List.getElem?_cons_succ, List.set_cons_zero, List.set_cons_succ, wipeE, initE, outsOf, toAv, slotsOf, putOuts, natNodup, List.map_cons, List.map_nil, List.cons_append, List.nil_append, List.append_nil, List.replicate, List.length_cons, List.length_nil, isNone, isiD, seqD, gItem, truD, zipOf, zipD, pick, List.contains_nil, List.contains_cons, eq_self, if_true, if_false, Bool.false_eq_true, Bool.true_eq_false, Bool.not_true, Bool.not_false, reduceIte, decide_true, decide_false, Nat.reduceAdd, Nat.reduceSub, Nat.zero_add, Nat.add_zero, and_self, true_and, and_true, Bool.and_true, Bool.true_and, Bool.or_false, Bool.false_or, Bool.or_true, Bool.true_or, Bool.and_false, Bool.false_and, Bool.or_self, Bool.and_self, Nat.sub_self, Option.map_some, Option.map_none, Nat.reduceBEq, Bool.not_eq_true, beq_self_eq_true, Nat.reduceLeDiff, Nat.reduceLT, Nat.reduceEqDiff, List.filterMap_cons, List.filterMap_nil, $as,*])
open PySem PySem.Spec PyProof.Rows L2
section
variable {f g h w : Fn}
theorem k_check_stretch_ok (hs : ∀ a, f [.val (eS a)] = some (.val (.bool (okS a)), [])) {a : SS} (ha : okS a = true) : k_check_stretch f [.val (eS a)] = some (.val .none, []) := by
  simp! only [k_check_stretch, k_check_stretch_b, hs, ha]
theorem k_check_whole_ok (hs : ∀ i, f [.val (.int i)] = some (.val (.bool true), [])) (i : Int) : k_check_whole f [.val (.int i)] = some (.val .none, []) := by
  simp! only [k_check_whole, k_check_whole_b, hs]
theorem k_check_stretches_ok (hs : ∀ a, okS a = true → f [.val (eS a)] = some (.val .none, [])) {a b : SS} (ha : okS a = true) (hb : okS b = true) : k_check_stretches f [.val (eS a), .val (eS b)] = some (.val .none, []) := by
  simp! only [k_check_stretches, k_check_stretches_b, hs a ha, hs b hb]
theorem k_stretch_holds_ok (h1 : ∀ a k, f [.val (eS a), .val (.int k)] = some (.val (.bool (hasS a k)), [])) (h2 : ∀ a, okS a = true → g [.val (eS a)] = some (.val .none, [])) (h3 : ∀ i, h [.val (.int i)] = some (.val .none, [])) {a : SS} (ha : okS a = true) (k : Int) :
    k_stretch_holds f g h [.val (eS a), .val (.int k)] = some (.val (.bool (hasS a k)), []) := by
  simp! only [k_stretch_holds, k_stretch_holds_b, h1, h2 a ha, h3]
theorem k_stretch_within_ok (h1 : ∀ a b, f [.val (eS a), .val (eS b)] = some (.val (.bool (withinS a b)), [])) (h2 : ∀ a b, okS a = true → okS b = true → g [.val (eS a), .val (eS b)] = some (.val .none, [])) {a b : SS} (ha : okS a = true) (hb : okS b = true) :
    k_stretch_within f g [.val (eS a), .val (eS b)] = some (.val (.bool (withinS a b)), []) := by
  simp! only [k_stretch_within, k_stretch_within_b, h1, h2 a b ha hb]
theorem k_stretch_joined_ok (h1 : ∀ a b, f [.val (eS a), .val (eS b)] = some (.val (eS (joinS a b)), [])) (h2 : ∀ a b, okS a = true → okS b = true → g [.val (eS a), .val (eS b)] = some (.val .none, [])) {a b : SS} (ha : okS a = true) (hb : okS b = true) :
    k_stretch_joined f g [.val (eS a), .val (eS b)] = some (.val (eS (joinS a b)), []) := by
  simp! only [k_stretch_joined, k_stretch_joined_b, h1, h2 a b ha hb]
theorem k_stretch_met_ok (h1 : ∀ a b, f [.val (eS a), .val (eS b)] = some (.val (eS (meetS a b)), [])) (h2 : ∀ a b, okS a = true → okS b = true → g [.val (eS a), .val (eS b)] = some (.val .none, [])) {a b : SS} (ha : okS a = true) (hb : okS b = true) :
    k_stretch_met f g [.val (eS a), .val (eS b)] = some (.val (eS (meetS a b)), []) := by
  simp! only [k_stretch_met, k_stretch_met_b, h1, h2 a b ha hb]
/-! ### the law's own -/
theorem k__law_has_ok (a : SS) (k : Int) : k__law_has [.val (eS a), .val (.int k)] = some (.val (.bool (hasS a k)), []) := by
  rcases a with _ | ⟨_ | l, _ | h⟩ <;> simp! only [k__law_has, k__law_has_b, eS_n, eS_s, eE, hasS, leE]
theorem k__law_inside_ok (a b : SS) : k__law_inside [.val (eS a), .val (eS b)] = some (.val (.bool (withinS a b)), []) := by
  rcases a with _ | ⟨_ | a1, _ | a2⟩ <;> rcases b with _ | ⟨_ | b1, _ | b2⟩ <;> simp! only [k__law_inside, k__law_inside_b, eS_n, eS_s, eE, withinS, lowW, highW]
theorem k__law_join_ok (a b : SS) : k__law_join [.val (eS a), .val (eS b)] = some (.val (eS (joinS a b)), []) := by
  rcases a with _ | ⟨_ | a1, _ | a2⟩ <;> rcases b with _ | ⟨_ | b1, _ | b2⟩ <;> simp! only [k__law_join, k__law_join_b, eS_n, eS_s, eE, joinS, minE, maxE]
theorem q_maxL1 {x : Int} : gMax [.list [.int x]] = some (.int x) := rfl
theorem q_maxL2 {x y : Int} : gMax [.list [.int x, .int y]] = some (.int (max x y)) := rfl
theorem q_minL1 {x : Int} : gMin [.list [.int x]] = some (.int x) := rfl
theorem q_minL2 {x y : Int} : gMin [.list [.int x, .int y]] = some (.int (min x y)) := rfl
theorem leE_not (x y : Int) : decide (y < x) = !decide (x ≤ y) := by
  by_cases h : x ≤ y
  · simp [h]
  · simp [h]; omega
theorem k__law_meet_ok (a b : SS) : k__law_meet [.val (eS a), .val (eS b)] = some (.val (eS (meetS a b)), []) := by
  rcases a with _ | ⟨a1, a2⟩ <;> rcases b with _ | ⟨b1, b2⟩ <;> try (simp! only [k__law_meet, k__law_meet_b, eS_n, eS_s, meetS]; done)
  cases hz : leE (lowM a1 b1) (highM a2 b2) <;> rcases a1 with _ | a1 <;> rcases a2 with _ | a2 <;> rcases b1 with _ | b1 <;> rcases b2 with _ | b2 <;> simp only [leE, lowM, highM, Bool.true_eq_false] at hz <;>
    simp! only [k__law_meet, k__law_meet_b, eS_n, eS_s, eS_i, eE, meetS, lowM, highM, leE, q_maxL1, q_maxL2, q_minL1, q_minL2, leE_not, hz]
end
end Ev
namespace Ev
local macro_rules
  | `(tactic| simp! only [$as,*]) => `(tactic| simp only [↓x_var, ↓x_C, ↓x_op, ↓x_fz, ↓x_rV, ↓x_B, ↓x_chain, ↓x_tru, ↓x_notT, ↓x_andT, ↓x_orT, ↓x_and, ↓x_or, ↓x_not, ↓x_neg, ↓x_if, ↓x_aNil, ↓x_aVal, ↓x_aSlot, ↓x_aTmp, ↓x_aR, ↓x_call, ↓x_callK, ↓x_dNil, ↓x_dCons, ↓x_tup, ↓x_lst, ↓x_itemN, ↓x_ownItem, ↓x_lenN, ↓x_blt, ↓x_isi, ↓x_list, ↓x_rgL1, ↓x_rgL2, ↓x_iSeq, ↓x_iZip, ↓x_range1, ↓x_range2, ↓x_addR, ↓x_slice, ↓x_partN, ↓x_partS, ↓x_comp, ↓x_skip, ↓x_stuck, ↓x_break, ↓x_cont, ↓x_seq, ↓x_sIf, ↓x_sExpr, ↓x_ret, ↓x_retN, ↓x_move, ↓x_setRv, ↓x_setRf, ↓x_set, ↓x_gN, ↓x_gsNil, ↓x_gsCons, ↓x_gTup, ↓x_gIx, ↓x_setAt, ↓x_asg, ↓x_par, ↓x_sm0, ↓x_smV, ↓x_smF, ↓x_app, ↓x_for, ↓x_for0, ↓x_for1, ↓x_comp0, ↓x_comp1, ↓x_fn, ↓x_iEnum, ↓x_range3, ↓x_comp2, ↓x_compN0, ↓x_compN1, q_addI, q_addT, q_addL, q_subI, q_ltI, q_leI, q_gtI, q_geI, q_isN, q_isNotN, q_eqI, q_neI, q_eqB, q_eqT0, q_eqT1, q_neT0, q_neT1, q_eqL0, q_eqL1, q_neL0, q_neL1, q_int, q_abs, q_min2, q_max2, q_at0, q_at1, q_at2, q_at3, q_ix0, q_ix1, q_ix2, q_sz, q_iteS, q_iteT, q_iteR, q_iteV, q_iteBB, q_iteII, q_iteAnd, q_iteOr, q_iteNot, q_iteCon, q_pa0, q_pa1, q_pa2, q_pa3, q_ow0, q_ow1, q_ow2, q_ow3, q_c0, q_c1, q_c2, q_c3, q_c4, q_c5, q_c6, q_c7, q_c8, q_c9, q_c10, q_c11, q_c12, q_all0, q_all1, q_all2, q_all3, q_inN2, q_inN0, q_02a, q_02b, List.getElem?_cons_zero, List.getElem?_cons_succ, List.set_cons_zero, List.set_cons_succ, wipeE, initE, outsOf, toAv, slotsOf, putOuts, natNodup, List.map_cons, List.map_nil, List.cons_append, List.nil_append, List.append_nil, List.replicate, List.length_cons, List.length_nil, isNone, isiD, seqD, gItem, truD, zipOf, zipD, pick, List.contains_nil, List.contains_cons, eq_self, if_true, if_false, Bool.false_eq_true, Bool.true_eq_false, Bool.not_true, Bool.not_false, reduceIte, decide_true, decide_false, Nat.reduceAdd, Nat.reduceSub, Nat.zero_add, Nat.add_zero, and_self, true_and, and_true, Bool.and_true, Bool.true_and, Bool.or_false, Bool.false_or, Bool.or_true, Bool.true_or, Bool.and_false, Bool.false_and, Bool.or_self, Bool.and_self, Nat.sub_self, Option.map_some, Option.map_none, Nat.reduceBEq, Bool.not_eq_true, beq_self_eq_true, Nat.reduceLeDiff, Nat.reduceLT, Nat.reduceEqDiff, List.filterMap_cons, List.filterMap_nil, $as,*])
open PySem PySem.Spec PyProof.Rows L2
theorem forL_cnt {g : Gf} {b : Fx Fl} {I : Nat → En → Prop} : ∀ (ds : List D) (n : Nat) (env : En), I n env → (∀ d ∈ ds, ∀ m e, m < n + ds.length → I m e → ∃ e1 e2, g d e = some e1 ∧ b e1 = some (.nx, e2) ∧ I (m + 1) e2) → ∃ e, forL g b ds env = some (.nx, e) ∧ I (n + ds.length) e
  | [], n, env, h, _ => ⟨env, rfl, h⟩
  | d :: ds, n, env, h, H => by
    obtain ⟨e1, e2, h1, h2, h3⟩ := H d (List.mem_cons_self ..) n env (by rw [List.length_cons]; omega) h
    obtain ⟨e, h4, h5⟩ := forL_cnt ds (n + 1) e2 h3 fun x hx m e hm => H x (List.mem_cons_of_mem _ hx) m e (by rw [List.length_cons]; omega)
    refine ⟨e, ?_, by rw [List.length_cons, show n + (ds.length + 1) = n + 1 + ds.length by omega]; exact h5⟩
    rw [x_for1, h1]
    dsimp only
    rw [h2]
    exact h4
/-- a slot that may be written -/
def Fr (s : Sl) : Prop := isPar s = false
/-! ### picking -/
theorem atI_mem {xs : List D} {v : Int} (h0 : 0 ≤ v) (h1 : v < xs.length) : ∃ d ∈ xs, atI xs v = some d := by
  have hi : v.toNat < xs.length := by omega
  refine ⟨xs[v.toNat], List.getElem_mem hi, ?_⟩
  unfold atI
  rw [q_ixN h0 h1]
  exact List.getElem?_eq_getElem hi
def Pk (g : Fn) : Prop := ∀ (b : Nat) (ds xs : List D), Src (b + 1) ds → xs ≠ [] → xs.length < 1000000 →
  (∃ d ∈ xs, ∃ ds', g [.own ds, .val (.list xs)] = some (.val d, [ds']) ∧ Src b ds') ∧ ∃ d ∈ xs, ∃ ds', g [.own ds, .val (.tuple xs)] = some (.val d, [ds']) ∧ Src b ds'
theorem k_pick_ok {t : Fn} (T : Tk t) : Pk (k__law_pick t) := by
  intro b ds xs h hx hl
  have hp : 0 < xs.length := List.length_pos_iff.mpr hx
  obtain ⟨v, d1, e1, p1, q1, s1⟩ := T _ ds xs.length h (by omega) (by omega)
  obtain ⟨d, hd, ha⟩ := atI_mem p1 q1
  refine ⟨⟨d, hd, d1, ?_, s1⟩, ⟨d, hd, d1, ?_, s1⟩⟩
  · simp! only [k__law_pick, k__law_pick_b, e1, ha]
  · simp! only [k__law_pick, k__law_pick_b, e1, ha]
/-! ### stretches drawn -/
def szE (z : Int) : EE → Prop
  | none => True
  | some i => -z ≤ i ∧ i ≤ z
def szS (z : Int) : SS → Prop
  | none => True
  | some (l, h) => szE z l ∧ szE z h
theorem szE.mono {z z' : Int} {x : EE} (h : szE z x) (hz : z ≤ z') : szE z' x := by
  cases x with
  | none => trivial
  | some i =>
    obtain ⟨h1, h2⟩ := h
    exact ⟨by omega, by omega⟩
theorem szS.mono {z z' : Int} {x : SS} (h : szS z x) (hz : z ≤ z') : szS z' x := by
  rcases x with _ | ⟨l, r⟩
  · trivial
  · exact ⟨h.1.mono hz, h.2.mono hz⟩
def St (k : Nat) (z : Int) (g : Fn) : Prop := ∀ (b : Nat) (ds : List D), Src (b + k) ds → ∃ (a : SS) (ds' : List D), g [.own ds] = some (.val (eS a), [ds']) ∧ okS a = true ∧ szS z a ∧ Src b ds'
theorem k_stretch_ok {t nu : Fn} (T : Tk t) (N : Nm 7 (2 ^ 110) nu) : St 9 (2 ^ 111) (k__law_stretch t nu) := by
  intro b ds h
  obtain ⟨v1, d1, e1, p1, q1, s1⟩ := T _ ds 14 (h.mono (by omega : (b + 8) + 1 ≤ b + 9)) (by decide) (by decide)
  by_cases c0 : v1 = 0
  · refine ⟨none, d1, ?_, rfl, trivial, s1.mono (by omega)⟩
    subst c0
    have c1 : (0 : Int) < 2 := by decide
    simp! only [k__law_stretch, k__law_stretch_b, e1, c1, eS_n, eS_s, eE]
  by_cases c1 : v1 < 2
  · refine ⟨some (none, none), d1, ?_, rfl, ⟨trivial, trivial⟩, s1.mono (by omega)⟩
    simp! only [k__law_stretch, k__law_stretch_b, e1, c0, c1, eS_n, eS_s, eE]
  obtain ⟨v2, d2, e2, p2, q2, s2⟩ := N (b + 1) d1 (s1.mono (by omega))
  by_cases c2 : v1 < 4
  · refine ⟨some (none, some v2), d2, ?_, rfl, ⟨trivial, by omega, by omega⟩, s2.mono (by omega)⟩
    have c3 : v1 < 6 := by omega
    simp! only [k__law_stretch, k__law_stretch_b, e1, e2, c1, c2, c3, eS_n, eS_s, eE]
  by_cases c3 : v1 < 6
  · refine ⟨some (some v2, none), d2, ?_, rfl, ⟨⟨by omega, by omega⟩, trivial⟩, s2.mono (by omega)⟩
    simp! only [k__law_stretch, k__law_stretch_b, e1, e2, c1, c2, c3, eS_n, eS_s, eE]
  by_cases c4 : v1 = 6
  · refine ⟨some (some v2, some v2), d2, ?_, decide_eq_true (Int.le_refl _), ⟨⟨by omega, by omega⟩, ⟨by omega, by omega⟩⟩, s2.mono (by omega)⟩
    subst c4
    simp! only [k__law_stretch, k__law_stretch_b, e1, e2, c1, c3, eS_n, eS_s, eE]
  by_cases c5 : v1 < 12
  · obtain ⟨v3, d3, e3, p3, q3, s3⟩ := T b d2 12 s2 (by decide) (by decide)
    refine ⟨some (some v2, some (v2 + v3)), d3, ?_, decide_eq_true (by omega), ⟨⟨by omega, by omega⟩, ⟨by omega, by omega⟩⟩, s3⟩
    simp! only [k__law_stretch, k__law_stretch_b, e1, e2, e3, c1, c3, c4, c5, eS_n, eS_s, eE]
  · obtain ⟨v3, d3, e3, p3, q3, s3⟩ := T b d2 100003 s2 (by decide) (by decide)
    refine ⟨some (some v2, some (v2 + v3)), d3, ?_, decide_eq_true (by omega), ⟨⟨by omega, by omega⟩, ⟨by omega, by omega⟩⟩, s3⟩
    simp! only [k__law_stretch, k__law_stretch_b, e1, e2, e3, c1, c3, c4, c5, eS_n, eS_s, eE]
/-- the numbers among some ends -/
def nums (es : List EE) : List Int := es.filterMap id
theorem nums_filter : ∀ es : List EE, ((es.map eE).filter fun d => !isNone d).map id = (nums es).map PyData.int
  | [] => rfl
  | none :: es => nums_filter es
  | some i :: es => congrArg (PyData.int i :: ·) (nums_filter es)
theorem nums_mem {es : List EE} {i : Int} (h : i ∈ nums es) : some i ∈ es := by
  obtain ⟨x, h1, h2⟩ := List.mem_filterMap.mp h
  cases x with
  | none => cases h2
  | some j => cases h2; exact h1
theorem nums_len (es : List EE) : (nums es).length ≤ es.length := List.length_filterMap_le ..
def Nr (k : Nat) (g : Fn) : Prop := ∀ (b : Nat) (ds : List D) (es : List EE) (z : Int), Src (b + k) ds → (∀ e ∈ es, szE z e) → 2 ^ 111 ≤ z → es.length ≤ 1000 →
  ∃ (a : SS) (ds' : List D), g [.own ds, .val (.tuple (es.map eE))] = some (.val (eS a), [ds']) ∧ okS a = true ∧ szS (z + 4) a ∧ Src b ds'
theorem k_near_ok {t p s : Fn} (T : Tk t) (P : Pk p) (S : St 9 (2 ^ 111) s) : Nr 10 (k__law_near t p s) := by
  intro b ds es z h hz hz2 hl
  have hc : compL (gN 6) (eB (eOp gIsNot (eVar 6) (eC .none))) (eVar 6) [6] (es.map eE) [] [.par ds, .val (.tuple (es.map eE)), .no, .no, .no, .no, .no] = some ((nums es).map PyData.int, [.par ds, .val (.tuple (es.map eE)), .no, .no, .no, .no, .no]) := by
    rw [compL_map (p := fun d => !isNone d) (h := id) (es.map eE) [] (by rw [List.length_map, List.length_nil, q_sz]; omega) fun d hd => ?_, nums_filter]
    · rfl
    · obtain ⟨e, _, rfl⟩ := List.mem_map.mp hd
      refine ⟨[.par ds, .val (.tuple (es.map eE)), .no, .no, .no, .no, .val (eE e)], [.par ds, .val (.tuple (es.map eE)), .no, .no, .no, .no, .val (eE e)], ?_, ?_, fun _ => ⟨[.par ds, .val (.tuple (es.map eE)), .no, .no, .no, .no, .val (eE e)], ?_, ?_⟩, fun _ => ?_⟩ <;> simp! only [id]
  have hn : ∀ d ∈ (nums es).map PyData.int, ∃ i : Int, d = .int i ∧ -z ≤ i ∧ i ≤ z := fun d hd => by
    obtain ⟨i, hi, rfl⟩ := List.mem_map.mp hd
    have := hz _ (nums_mem hi)
    exact ⟨i, rfl, this.1, this.2⟩
  have hnl : ((nums es).map PyData.int).length < 1000000 := by
    have := nums_len es
    rw [List.length_map]
    omega
  generalize (nums es).map PyData.int = ls at hc hn hnl
  cases ls with
  | nil =>
    obtain ⟨a, d1, e1, o1, z1, s1⟩ := S (b + 1) ds (h.mono (by omega))
    refine ⟨a, d1, ?_, o1, z1.mono (by omega), s1.mono (by omega)⟩
    simp! only [k__law_near, k__law_near_b, hc, e1]
  | cons l ls =>
    obtain ⟨v0, d0, e0, p0, q0, s0⟩ := T (b + 9) ds 4 h (by decide) (by decide)
    by_cases c0 : v0 = 0
    · obtain ⟨a, d1, e1, o1, z1, s1⟩ := S b d0 s0
      refine ⟨a, d1, ?_, o1, z1.mono (by omega), s1⟩
      subst c0
      simp! only [k__law_near, k__law_near_b, hc, e0, e1]
    obtain ⟨⟨x1, hx1, d1, e1, s1⟩, -⟩ := P (b + 8) d0 (l :: ls) s0 (by simp) hnl
    obtain ⟨i1, rfl, y1, w1⟩ := hn x1 hx1
    obtain ⟨v2, d2, e2, p2, q2, s2⟩ := T (b + 7) d1 5 s1 (by decide) (by decide)
    obtain ⟨v3, d3, e3, p3, q3, s3⟩ := T (b + 6) d2 7 s2 (by decide) (by decide)
    by_cases c1 : v3 = 0
    · refine ⟨some (none, some (i1 + v2 - 2)), d3, ?_, rfl, ⟨trivial, by omega, by omega⟩, s3.mono (by omega)⟩
      subst c1
      have c2 : (0 : Int) < 2 := by decide
      simp! only [k__law_near, k__law_near_b, hc, e0, e1, e2, e3, c0, c2, eS_s, eE]
    by_cases c2 : v3 < 2
    · refine ⟨some (some (i1 + v2 - 2), none), d3, ?_, rfl, ⟨⟨by omega, by omega⟩, trivial⟩, s3.mono (by omega)⟩
      simp! only [k__law_near, k__law_near_b, hc, e0, e1, e2, e3, c0, c1, c2, eS_s, eE]
    by_cases c3 : v3 < 6
    · obtain ⟨⟨x4, hx4, d4, e4, s4⟩, -⟩ := P (b + 5) d3 (l :: ls) s3 (by simp) hnl
      obtain ⟨i4, rfl, y4, w4⟩ := hn x4 hx4
      obtain ⟨v5, d5, e5, p5, q5, s5⟩ := T (b + 4) d4 5 s4 (by decide) (by decide)
      refine ⟨some (some (min (i1 + v2 - 2) (i4 + v5 - 2)), some (max (i1 + v2 - 2) (i4 + v5 - 2))), d5, ?_, decide_eq_true (by omega), ⟨⟨by omega, by omega⟩, ⟨by omega, by omega⟩⟩, s5.mono (by omega)⟩
      simp! only [k__law_near, k__law_near_b, hc, e0, e1, e2, e3, e4, e5, c0, c2, c3, eS_s, eE]
    · refine ⟨some (some (min (i1 + v2 - 2) (i1 + v2 - 2)), some (max (i1 + v2 - 2) (i1 + v2 - 2))), d3, ?_, decide_eq_true (by omega), ⟨⟨by omega, by omega⟩, ⟨by omega, by omega⟩⟩, s3.mono (by omega)⟩
      simp! only [k__law_near, k__law_near_b, hc, e0, e1, e2, e3, c0, c2, c3, eS_s, eE]
/-! ### the same -/
def gd : Nat → D → Bool
  | _, .none => true
  | _, .bool _ => true
  | _, .int _ => true
  | k + 1, .tuple xs => decide (xs.length ≤ 1000) && xs.all (gd k)
  | _, _ => false
def SameOk (k : Nat) (g : Fn) : Prop := ∀ d, gd k d = true → g [.val d, .val d] = some (.val (.bool true), [])
theorem zip_self : ∀ xs : List D, zipD xs xs = xs.map fun d => .tuple [d, d]
  | [] => rfl
  | d :: xs => congrArg (PyData.tuple [d, d] :: ·) (zip_self xs)
theorem k_same_flat {w f : Fn} (hw : ∀ i, w [.val (.int i)] = some (.val (.bool true), [])) : (k__law_same w f [.val .none, .val .none] = some (.val (.bool true), [])) ∧ (∀ b, k__law_same w f [.val (.bool b), .val (.bool b)] = some (.val (.bool true), [])) ∧ ∀ i, k__law_same w f [.val (.int i), .val (.int i)] = some (.val (.bool true), []) := by
  refine ⟨?_, fun b => ?_, fun i => ?_⟩
  · simp! only [k__law_same, k__law_same_b]
  · simp! only [k__law_same, k__law_same_b]
  · simp! only [k__law_same, k__law_same_b, hw]
theorem k_same_ok {w f : Fn} (hw : ∀ i, w [.val (.int i)] = some (.val (.bool true), [])) : SameOk 0 (k__law_same w f) := by
  obtain ⟨h1, h2, h3⟩ := k_same_flat (f := f) hw
  intro d hd
  cases d with
  | none => exact h1
  | bool b => exact h2 b
  | int i => exact h3 i
  | _ => cases hd
theorem k_same_up {w f : Fn} {k : Nat} (hw : ∀ i, w [.val (.int i)] = some (.val (.bool true), [])) (hf : SameOk k f) : SameOk (k + 1) (k__law_same w f) := by
  obtain ⟨h1, h2, h3⟩ := k_same_flat (f := f) hw
  intro d hd
  cases d with
  | none => exact h1
  | bool b => exact h2 b
  | int i => exact h3 i
  | tuple xs =>
    obtain ⟨hl, hx⟩ := He.ba (show (decide (xs.length ≤ 1000) && xs.all (gd k)) = true from hd)
    have hl := of_decide_eq_true hl
    have hc : compL (gTup 2 (gsCons (gN 2) (gsCons (gN 3) gsNil))) (fun env => some (true, env)) (eFz (eCall f (aVal (eVar 2) (aVal (eVar 3) aNil)))) [2, 3] (zipD xs xs) [] [.val (.tuple xs), .val (.tuple xs), .no, .no] = some ([] ++ (zipD xs xs).map (fun _ => .bool true), [.val (.tuple xs), .val (.tuple xs), .no, .no]) := by
      rw [zip_self]
      refine compL_all _ [] (by rw [List.length_map, List.length_nil, q_sz]; omega) fun d hd => ?_
      obtain ⟨e, he, rfl⟩ := List.mem_map.mp hd
      have := hf e (List.all_eq_true.mp hx e he)
      refine ⟨[.val (.tuple xs), .val (.tuple xs), .val e, .val e], [.val (.tuple xs), .val (.tuple xs), .val e, .val e], [.val (.tuple xs), .val (.tuple xs), .val e, .val e], ?_, rfl, ?_, ?_⟩ <;> simp! only [this]
    have ha : gAll [.list ((zipD xs xs).map (fun _ => .bool true))] = some (.bool true) := gAll_true fun d hd => by
      obtain ⟨_, _, rfl⟩ := List.mem_map.mp hd
      rfl
    simp! only [k__law_same, k__law_same_b, hc, ha]
  | _ => cases hd
/-! ### numbers beside the ends -/
theorem k_beside_ok (es : List EE) (hl : es.length ≤ 1000) : ∃ ns : List Int, ns.length ≤ 4000 ∧ (k__law_beside [.val (.tuple (es.map eE))] = some (.val (.list (ns.map PyData.int)), []) ∨ k__law_beside [.val (.tuple (es.map eE))] = some (.fresh (ns.map PyData.int), [])) := by
  obtain ⟨e, he, ns, o, hn, hi, ho⟩ := forL_cnt (g := gN 2) (b := (sIf (eB (eOp gIsNot (eVar 2) (eC .none))) (sSet 1 (rV (eOp gAdd (eVar 1) (eFz (eLst (dCons (eOp gSub (eVar 2) (eC (.int 1))) (dCons (eVar 2) (dCons (eOp gAdd (eVar 2) (eC (.int 1))) dNil)))))))) sSkip))
    (I := fun n e => ∃ (ns : List Int) (o : Sl), ns.length ≤ 1 + 3 * n ∧ (e = [.val (.tuple (es.map eE)), .own (ns.map PyData.int), o] ∨ e = [.val (.tuple (es.map eE)), .val (.list (ns.map PyData.int)), o]) ∧ Fr o) (es.map eE) 0 [.val (.tuple (es.map eE)), .own [.int 0], .no]
    ⟨[0], .no, by decide, .inl rfl, rfl⟩ (by
      rintro d hd m e hm ⟨ns, o, hn, hi, ho⟩
      obtain ⟨x, _, rfl⟩ := List.mem_map.mp hd
      rw [List.length_map] at hm
      have hs : (ns.map PyData.int).length + 3 ≤ 16777216 := by rw [List.length_map]; omega
      have ap : ∀ i : Int, ns.map PyData.int ++ [.int (i - 1), .int i, .int (i + 1)] = (ns ++ [i - 1, i, i + 1]).map PyData.int := fun i => by rw [List.map_append]; rfl
      rcases x with _ | i
      · rcases hi with rfl | rfl
        · refine ⟨[.val (.tuple (es.map eE)), .own (ns.map PyData.int), .val .none], [.val (.tuple (es.map eE)), .own (ns.map PyData.int), .val .none], ?_, ?_, ns, .val .none, by omega, .inl rfl, rfl⟩ <;> simp! only [show isPar o = false from ho, eE]
        · refine ⟨[.val (.tuple (es.map eE)), .val (.list (ns.map PyData.int)), .val .none], [.val (.tuple (es.map eE)), .val (.list (ns.map PyData.int)), .val .none], ?_, ?_, ns, .val .none, by omega, .inr rfl, rfl⟩ <;> simp! only [show isPar o = false from ho, eE]
      · rcases hi with rfl | rfl
        · refine ⟨[.val (.tuple (es.map eE)), .own (ns.map PyData.int), .val (.int i)], [.val (.tuple (es.map eE)), .val (.list ((ns ++ [i - 1, i, i + 1]).map PyData.int)), .val (.int i)], ?_, ?_, _, .val (.int i), ?_, .inr rfl, rfl⟩
          · simp! only [show isPar o = false from ho, eE]
          · simp! only [hs, ap]
          · rw [List.length_append]; show ns.length + 3 ≤ _; omega
        · refine ⟨[.val (.tuple (es.map eE)), .val (.list (ns.map PyData.int)), .val (.int i)], [.val (.tuple (es.map eE)), .val (.list ((ns ++ [i - 1, i, i + 1]).map PyData.int)), .val (.int i)], ?_, ?_, _, .val (.int i), ?_, .inr rfl, rfl⟩
          · simp! only [show isPar o = false from ho, eE]
          · simp! only [hs, ap]
          · rw [List.length_append]; show ns.length + 3 ≤ _; omega)
  rw [List.length_map] at hn
  refine ⟨ns, by omega, ?_⟩
  rcases hi with rfl | rfl
  · right
    simp! only [k__law_beside, k__law_beside_b, he]
  · left
    simp! only [k__law_beside, k__law_beside_b, he]
end Ev
namespace Ev
open PySem PySem.Spec PyProof.Rows L2
theorem gd_eE (k : Nat) (x : EE) : gd k (eE x) = true := by cases x <;> cases k <;> rfl
theorem gd_eS (k : Nat) (a : SS) : gd (k + 1) (eS a) = true := by
  rcases a with _ | ⟨l, h⟩
  · rfl
  · show (decide _ && _) = true
    simp [gd_eE]
theorem gd_bool (k : Nat) (b : Bool) : gd k (.bool b) = true := by cases k <;> rfl
theorem gd_tup (k : Nat) (xs : List D) (hl : xs.length ≤ 1000) (h : ∀ d ∈ xs, gd k d = true) : gd (k + 1) (.tuple xs) = true := by
  show (decide (xs.length ≤ 1000) && xs.all (gd k)) = true
  simp only [hl, decide_true, Bool.true_and, List.all_eq_true]
  exact h
theorem all_nil {p : D → Prop} : ∀ d ∈ ([] : List D), p d := fun _ h => by cases h
theorem all_cons {p : D → Prop} {x : D} {xs : List D} (h : p x) (t : ∀ d ∈ xs, p d) : ∀ d ∈ x :: xs, p d := fun d hd => by
  rcases List.mem_cons.mp hd with rfl | hd
  · exact h
  · exact t d hd
/-! ### laws of stretches -/
theorem ok_meet (a b : SS) : okS (meetS a b) = true := by
  rcases a with _ | ⟨a1, a2⟩ <;> rcases b with _ | ⟨b1, b2⟩ <;> try rfl
  show okS (if leE (lowM a1 b1) (highM a2 b2) = true then some (lowM a1 b1, highM a2 b2) else none) = true
  cases h : leE (lowM a1 b1) (highM a2 b2)
  · rfl
  · exact h
theorem ok_join {a b : SS} (ha : okS a = true) (hb : okS b = true) : okS (joinS a b) = true := by
  rcases a with _ | ⟨_ | a1, _ | a2⟩ <;> rcases b with _ | ⟨_ | b1, _ | b2⟩ <;> first | rfl | assumption | skip
  simp only [okS, leE, joinS, minE, maxE, decide_eq_true_eq] at *
  omega
theorem within_join (a b c : SS) : withinS (joinS a b) c = (withinS a c && withinS b c) := by
  rcases a with _ | ⟨a1, a2⟩ <;> rcases b with _ | ⟨b1, b2⟩ <;> rcases c with _ | ⟨c1, c2⟩ <;> try (simp [withinS, joinS]; done)
  have h1 : lowW (minE a1 b1) c1 = (lowW a1 c1 && lowW b1 c1) := by
    rcases a1 with _ | a1 <;> rcases b1 with _ | b1 <;> rcases c1 with _ | c1 <;> simp [lowW, minE]
    · rw [← Bool.decide_and]; congr 1; apply propext; omega
  have h2 : highW (maxE a2 b2) c2 = (highW a2 c2 && highW b2 c2) := by
    rcases a2 with _ | a1 <;> rcases b2 with _ | b1 <;> rcases c2 with _ | c1 <;> simp [highW, maxE]
    · rw [← Bool.decide_and]; congr 1; apply propext; omega
  simp only [withinS, joinS, h1, h2]
  cases lowW a1 c1 <;> cases lowW b1 c1 <;> cases highW a2 c2 <;> cases highW b2 c2 <;> rfl
theorem lowW_iff (a b : EE) : lowW a b = true ↔ ∀ o, b = some o → ∃ l, a = some l ∧ o ≤ l := by
  rcases a with _ | a <;> rcases b with _ | b <;> simp [lowW]
theorem bool_iff {a b : Bool} (h : a = true ↔ b = true) : a = b := by cases a <;> cases b <;> simp_all
theorem within_meet {c : SS} (hc : okS c = true) (a b : SS) : withinS c (meetS a b) = (withinS c a && withinS c b) := by
  rcases a with _ | ⟨a1, a2⟩ <;> rcases b with _ | ⟨b1, b2⟩ <;> rcases c with _ | ⟨c1, c2⟩ <;> try (simp [withinS, meetS]; done)
  have h1 : lowW c1 (lowM a1 b1) = (lowW c1 a1 && lowW c1 b1) := by
    rcases a1 with _ | a1 <;> rcases b1 with _ | b1 <;> rcases c1 with _ | c1 <;> simp [lowW, lowM]
    · rw [← Bool.decide_and]; congr 1; apply propext; omega
  have h2 : highW c2 (highM a2 b2) = (highW c2 a2 && highW c2 b2) := by
    rcases a2 with _ | a1 <;> rcases b2 with _ | b1 <;> rcases c2 with _ | c1 <;> simp [highW, highM]
    · rw [← Bool.decide_and]; congr 1; apply propext; omega
  have h3 : lowW c1 (lowM a1 b1) = true → highW c2 (highM a2 b2) = true → leE (lowM a1 b1) (highM a2 b2) = true := by
    generalize lowM a1 b1 = x
    generalize highM a2 b2 = y
    rcases x with _ | x <;> rcases y with _ | y <;> rcases c1 with _ | c1 <;> rcases c2 with _ | c2 <;> simp [lowW, highW, leE, okS] at hc ⊢ <;> omega
  simp only [meetS]
  cases h : leE (lowM a1 b1) (highM a2 b2) with
  | true =>
    simp only [if_true, withinS, h1, h2]
    cases lowW c1 a1 <;> cases lowW c1 b1 <;> cases highW c2 a2 <;> cases highW c2 b2 <;> rfl
  | false =>
    have h4 : ¬ (lowW c1 (lowM a1 b1) = true ∧ highW c2 (highM a2 b2) = true) := fun z => by
      rw [h3 z.1 z.2] at h
      cases h
    rw [h1, h2] at h4
    simp only [Bool.false_eq_true, if_false, withinS]
    revert h4
    cases lowW c1 a1 <;> cases lowW c1 b1 <;> cases highW c2 a2 <;> cases highW c2 b2 <;> simp
theorem meet_join {a : SS} (ha : okS a = true) (b : SS) : meetS a (joinS a b) = a := by
  rcases a with _ | ⟨a1, a2⟩
  · cases b <;> rfl
  · have h0 : leE a1 a2 = true := ha
    have key : ∀ {x y : EE}, lowM a1 x = a1 → highM a2 y = a2 → meetS (some (a1, a2)) (some (x, y)) = some (a1, a2) := fun {x y} e1 e2 => by
      show (if leE (lowM a1 x) (highM a2 y) = true then some (lowM a1 x, highM a2 y) else none) = _
      rw [e1, e2, if_pos h0]
    rcases b with _ | ⟨b1, b2⟩
    · refine key ?_ ?_
      · rcases a1 with _ | a1 <;> simp [lowM]
      · rcases a2 with _ | a2 <;> simp [highM]
    · refine key ?_ ?_
      · rcases a1 with _ | a1 <;> rcases b1 with _ | b1 <;> simp [lowM, minE] <;> omega
      · rcases a2 with _ | a2 <;> rcases b2 with _ | b2 <;> simp [highM, maxE] <;> omega
theorem join_meet {a : SS} (b : SS) : joinS a (meetS a b) = a := by
  rcases a with _ | ⟨a1, a2⟩
  · rfl
  · rcases b with _ | ⟨b1, b2⟩
    · rfl
    · simp only [meetS]
      cases leE (lowM a1 b1) (highM a2 b2) with
      | false => rfl
      | true =>
        simp only [if_true, joinS]
        have h1 : minE a1 (lowM a1 b1) = a1 := by rcases a1 with _ | a1 <;> rcases b1 with _ | b1 <;> simp [lowM, minE] <;> omega
        have h2 : maxE a2 (highM a2 b2) = a2 := by rcases a2 with _ | a2 <;> rcases b2 with _ | b2 <;> simp [highM, maxE] <;> omega
        rw [h1, h2]
theorem join_assoc (a b c : SS) : joinS (joinS a b) c = joinS a (joinS b c) := by
  rcases a with _ | ⟨a1, a2⟩ <;> rcases b with _ | ⟨b1, b2⟩ <;> rcases c with _ | ⟨c1, c2⟩ <;> try rfl
  have h1 : minE (minE a1 b1) c1 = minE a1 (minE b1 c1) := by rcases a1 with _ | a1 <;> rcases b1 with _ | b1 <;> rcases c1 with _ | c1 <;> simp [minE] <;> omega
  have h2 : maxE (maxE a2 b2) c2 = maxE a2 (maxE b2 c2) := by rcases a2 with _ | a1 <;> rcases b2 with _ | b1 <;> rcases c2 with _ | c1 <;> simp [maxE] <;> omega
  simp only [joinS, h1, h2]
theorem leE_low {a b h : EE} (q : leE (lowM a b) h = true) : leE a h = true ∧ leE b h = true := by
  rcases a with _ | a <;> rcases b with _ | b <;> rcases h with _ | h <;> simp [lowM, leE] at q ⊢ <;> omega
theorem leE_high {l a b : EE} (q : leE l (highM a b) = true) : leE l a = true ∧ leE l b = true := by
  rcases a with _ | a <;> rcases b with _ | b <;> rcases l with _ | h <;> simp [highM, leE] at q ⊢ <;> omega
theorem meet_assoc (a b c : SS) : meetS (meetS a b) c = meetS a (meetS b c) := by
  rcases a with _ | ⟨a1, a2⟩
  · rfl
  rcases b with _ | ⟨b1, b2⟩
  · rfl
  rcases c with _ | ⟨c1, c2⟩
  · simp only [meetS]
    cases leE (lowM a1 b1) (highM a2 b2) <;> rfl
  have h1 : lowM (lowM a1 b1) c1 = lowM a1 (lowM b1 c1) := by rcases a1 with _ | a1 <;> rcases b1 with _ | b1 <;> rcases c1 with _ | c1 <;> simp [lowM] <;> omega
  have h2 : highM (highM a2 b2) c2 = highM a2 (highM b2 c2) := by rcases a2 with _ | a1 <;> rcases b2 with _ | b1 <;> rcases c2 with _ | c1 <;> simp [highM] <;> omega
  simp only [meetS]
  cases q1 : leE (lowM a1 b1) (highM a2 b2) <;> cases q2 : leE (lowM b1 c1) (highM b2 c2) <;> simp only [Bool.false_eq_true, if_false, if_true, meetS, h1, h2]
  · cases q3 : leE (lowM a1 (lowM b1 c1)) (highM a2 (highM b2 c2)) with
    | false => rfl
    | true =>
      rw [← h1, ← h2] at q3
      rw [(leE_high (leE_low q3).1).1] at q1
      cases q1
  · cases q3 : leE (lowM a1 (lowM b1 c1)) (highM a2 (highM b2 c2)) with
    | false => rfl
    | true =>
      rw [(leE_high (leE_low q3).2).2] at q2
      cases q2
theorem has_meet (a b : SS) (k : Int) : hasS (meetS a b) k = (hasS a k && hasS b k) := by
  rcases a with _ | ⟨a1, a2⟩
  · rfl
  rcases b with _ | ⟨b1, b2⟩
  · simp only [meetS, hasS, Bool.and_false]
  have h1 : leE (lowM a1 b1) (some k) = (leE a1 (some k) && leE b1 (some k)) := by
    rcases a1 with _ | a1 <;> rcases b1 with _ | b1 <;> simp [leE, lowM]
    · rw [← Bool.decide_and]; congr 1; apply propext; omega
  have h2 : leE (some k) (highM a2 b2) = (leE (some k) a2 && leE (some k) b2) := by
    rcases a2 with _ | a1 <;> rcases b2 with _ | b1 <;> simp [leE, highM]
    · rw [← Bool.decide_and]; congr 1; apply propext; omega
  have h3 : leE (lowM a1 b1) (some k) = true → leE (some k) (highM a2 b2) = true → leE (lowM a1 b1) (highM a2 b2) = true := by
    generalize lowM a1 b1 = x
    generalize highM a2 b2 = y
    rcases x with _ | x <;> rcases y with _ | y <;> simp [leE] <;> omega
  simp only [meetS]
  cases h : leE (lowM a1 b1) (highM a2 b2) with
  | true =>
    simp only [if_true, hasS, h1, h2]
    cases leE a1 (some k) <;> cases leE b1 (some k) <;> cases leE (some k) a2 <;> cases leE (some k) b2 <;> rfl
  | false =>
    have h4 : ¬ (leE (lowM a1 b1) (some k) = true ∧ leE (some k) (highM a2 b2) = true) := fun z => by
      rw [h3 z.1 z.2] at h
      cases h
    rw [h1, h2] at h4
    simp only [Bool.false_eq_true, if_false, hasS]
    revert h4
    cases leE a1 (some k) <;> cases leE b1 (some k) <;> cases leE (some k) a2 <;> cases leE (some k) b2 <;> simp
theorem has_join {a b : SS} {k : Int} (h : (hasS a k || hasS b k) = true) : hasS (joinS a b) k = true := by
  rcases a with _ | ⟨_ | a1, _ | a2⟩ <;> rcases b with _ | ⟨_ | b1, _ | b2⟩ <;> simp [hasS, joinS, leE, minE, maxE] at h ⊢ <;> omega
end Ev
namespace Ev
local macro_rules
  | `(tactic| simp! only [$as,*]) => `(tactic| simp only [↓x_var, ↓x_C, ↓x_op, ↓x_fz, ↓x_rV, ↓x_B, ↓x_chain, ↓x_tru, ↓x_notT, ↓x_andT, ↓x_orT, ↓x_and, ↓x_or, ↓x_not, ↓x_neg, ↓x_if, ↓x_aNil, ↓x_aVal, ↓x_aSlot, ↓x_aTmp, ↓x_aR, ↓x_call, ↓x_callK, ↓x_dNil, ↓x_dCons, ↓x_tup, ↓x_lst, ↓x_itemN, ↓x_ownItem, ↓x_lenN, ↓x_blt, ↓x_isi, ↓x_list, ↓x_rgL1, ↓x_rgL2, ↓x_iSeq, ↓x_iZip, ↓x_range1, ↓x_range2, ↓x_addR, ↓x_slice, ↓x_partN, ↓x_partS, ↓x_comp, ↓x_skip, ↓x_stuck, ↓x_break, ↓x_cont, ↓x_seq, ↓x_sIf, ↓x_sExpr, ↓x_ret, ↓x_retN, ↓x_move, ↓x_setRv, ↓x_setRf, ↓x_set, ↓x_gN, ↓x_gsNil, ↓x_gsCons, ↓x_gTup, ↓x_gIx, ↓x_setAt, ↓x_asg, ↓x_par, ↓x_sm0, ↓x_smV, ↓x_smF, ↓x_app, ↓x_for, ↓x_for0, ↓x_for1, ↓x_comp0, ↓x_comp1, ↓x_fn, ↓x_iEnum, ↓x_range3, ↓x_comp2, ↓x_compN0, ↓x_compN1, q_addI, q_addT, q_addL, q_subI, q_ltI, q_leI, q_gtI, q_geI, q_isN, q_isNotN, q_eqI, q_neI, q_eqB, q_eqT0, q_eqT1, q_neT0, q_neT1, q_eqL0, q_eqL1, q_neL0, q_neL1, q_int, q_abs, q_min2, q_max2, q_at0, q_at1, q_at2, q_at3, q_ix0, q_ix1, q_ix2, q_sz, q_iteS, q_iteT, q_iteR, q_iteV, q_iteBB, q_iteII, q_iteAnd, q_iteOr, q_iteNot, q_iteCon, q_pa0, q_pa1, q_pa2, q_pa3, q_ow0, q_ow1, q_ow2, q_ow3, q_c0, q_c1, q_c2, q_c3, q_c4, q_c5, q_c6, q_c7, q_c8, q_c9, q_c10, q_c11, q_c12, q_all0, q_all1, q_all2, q_all3, q_inN2, q_inN0, q_02a, q_02b, List.getElem?_cons_zero, List.getElem?_cons_succ, List.set_cons_zero, List.set_cons_succ, wipeE, initE, outsOf, toAv, slotsOf, putOuts, natNodup, List.map_cons, List.map_nil, List.cons_append, List.nil_append, List.append_nil, List.replicate, List.length_cons, List.length_nil, isNone, isiD, seqD, gItem, truD, zipOf, zipD, pick, List.contains_nil, List.contains_cons, eq_self, if_true, if_false, Bool.false_eq_true, Bool.true_eq_false, Bool.not_true, Bool.not_false, reduceIte, decide_true, decide_false, Nat.reduceAdd, Nat.reduceSub, Nat.zero_add, Nat.add_zero, and_self, true_and, and_true, Bool.and_true, Bool.true_and, Bool.or_false, Bool.false_or, Bool.or_true, Bool.true_or, Bool.and_false, Bool.false_and, Bool.or_self, Bool.and_self, Nat.sub_self, Option.map_some, Option.map_none, Nat.reduceBEq, Bool.not_eq_true, beq_self_eq_true, Nat.reduceLeDiff, Nat.reduceLT, Nat.reduceEqDiff, List.filterMap_cons, List.filterMap_nil, $as,*])
open PySem PySem.Spec PyProof.Rows L2
theorem tr {P : Fn → Prop} {f g : Fn} (e : f = g) (h : P g) : P f := e ▸ h
def Bs (be : Fn) : Prop := ∀ es : List EE, es.length ≤ 1000 → ∃ ns : List Int, ns.length ≤ 4000 ∧ (be [.val (.tuple (es.map eE))] = some (.val (.list (ns.map PyData.int)), []) ∨ be [.val (.tuple (es.map eE))] = some (.fresh (ns.map PyData.int), []))
theorem k_beside_bs : Bs k__law_beside := fun es h => k_beside_ok es h
def Rg (g : Fn) : Prop := ∀ ds, Src 100000000 ds → ∃ ds', g [.own ds] = some (.val (.bool true), [ds'])
def Sc (ns : List Int) (so : Fn) : Prop := ∀ t : Int, 0 ≤ t → t < 64 → ∃ ds', so [.val (.list (ns.map PyData.int)), .val (.int t)] = some (.fresh ds', []) ∧ Src 100000000 ds'
theorem source_sc {p q : Int} (hp : 0 ≤ p ∧ p < 2 ^ 40) (hq : 0 ≤ q ∧ q < 2 ^ 40) (ns : List Int) : Sc ns (callFn 5 (sourceC p q)) := fun t h0 h1 => source_ok hp hq ns t h0 h1
/-! ## k24: the checks -/
section
variable {wi jo me sa li lj lm ho ha : Fn}
theorem k_two_right_ok (h1 : ∀ a b, okS a = true → okS b = true → wi [.val (eS a), .val (eS b)] = some (.val (.bool (withinS a b)), [])) (h2 : ∀ a b, okS a = true → okS b = true → jo [.val (eS a), .val (eS b)] = some (.val (eS (joinS a b)), []))
    (h3 : ∀ a b, okS a = true → okS b = true → me [.val (eS a), .val (eS b)] = some (.val (eS (meetS a b)), [])) (hs : SameOk 2 sa) (l1 : ∀ a b, li [.val (eS a), .val (eS b)] = some (.val (.bool (withinS a b)), []))
    (l2 : ∀ a b, lj [.val (eS a), .val (eS b)] = some (.val (eS (joinS a b)), [])) (l3 : ∀ a b, lm [.val (eS a), .val (eS b)] = some (.val (eS (meetS a b)), [])) {a b : SS} (oa : okS a = true) (ob : okS b = true) :
    k__law_two_right wi jo me sa li lj lm [.val (eS a), .val (eS b)] = some (.val (.bool true), []) := by
  have s1 := hs (.tuple [.bool (withinS a b), eS (joinS a b), eS (meetS a b)]) (gd_tup 1 _ (by simp) (all_cons (gd_bool _ _) (all_cons (gd_eS 0 _) (all_cons (gd_eS 0 _) all_nil))))
  simp! only [k__law_two_right, k__law_two_right_b, h1 a b oa ob, h2 a b oa ob, h3 a b oa ob, l1, l2, l3, s1]
theorem k_three_right_ok (h1 : ∀ a b, okS a = true → okS b = true → wi [.val (eS a), .val (eS b)] = some (.val (.bool (withinS a b)), [])) (h2 : ∀ a b, okS a = true → okS b = true → jo [.val (eS a), .val (eS b)] = some (.val (eS (joinS a b)), []))
    (h3 : ∀ a b, okS a = true → okS b = true → me [.val (eS a), .val (eS b)] = some (.val (eS (meetS a b)), [])) (hs : SameOk 2 sa) (l1 : ∀ a b, li [.val (eS a), .val (eS b)] = some (.val (.bool (withinS a b)), []))
    (l2 : ∀ a b, lj [.val (eS a), .val (eS b)] = some (.val (eS (joinS a b)), [])) (l3 : ∀ a b, lm [.val (eS a), .val (eS b)] = some (.val (eS (meetS a b)), [])) {a b c : SS} (oa : okS a = true) (ob : okS b = true) (oc : okS c = true) :
    k__law_three_right wi jo me sa li lj lm [.val (eS a), .val (eS b), .val (eS c)] = some (.val (.bool true), []) := by
  have s1 := hs (.tuple [.bool (withinS a c && withinS b c), .bool (withinS c a && withinS c b)]) (gd_tup 1 _ (by simp) (all_cons (gd_bool _ _) (all_cons (gd_bool _ _) all_nil)))
  have s2 := hs (.tuple [eS a, eS a]) (gd_tup 1 _ (by simp) (all_cons (gd_eS 0 _) (all_cons (gd_eS 0 _) all_nil)))
  have s3 := hs (.tuple [eS (joinS a (joinS b c)), eS (meetS a (meetS b c))]) (gd_tup 1 _ (by simp) (all_cons (gd_eS 0 _) (all_cons (gd_eS 0 _) all_nil)))
  have oj := ok_join oa ob
  have om := ok_meet a b
  simp! only [k__law_three_right, k__law_three_right_b, h2 a b oa ob, h3 a b oa ob, l1, l2, l3, h1 _ _ oj oc, h1 _ _ oc om, within_join, within_meet oc, s1, h3 _ _ oa oj, h2 _ _ oa om, meet_join oa, join_meet, s2,
    h2 _ _ oj oc, h3 _ _ om oc, join_assoc, meet_assoc, s3, h2 b c ob oc, h3 b c ob oc, h2 _ _ oa (ok_join ob oc), h3 _ _ oa (ok_meet b c)]
theorem k_numbers_right_ok (h0 : ∀ a k, okS a = true → ho [.val (eS a), .val (.int k)] = some (.val (.bool (hasS a k)), [])) (h2 : ∀ a b, okS a = true → okS b = true → jo [.val (eS a), .val (eS b)] = some (.val (eS (joinS a b)), []))
    (h3 : ∀ a b, okS a = true → okS b = true → me [.val (eS a), .val (eS b)] = some (.val (eS (meetS a b)), [])) (hs : SameOk 2 sa) (l0 : ∀ a k, ha [.val (eS a), .val (.int k)] = some (.val (.bool (hasS a k)), [])) {a b : SS} (oa : okS a = true) (ob : okS b = true) (ns : List Int) :
    k__law_numbers_right ho jo me sa ha [.val (eS a), .val (eS b), .val (.list (ns.map PyData.int))] = some (.val (.bool true), []) := by
  obtain ⟨e, he, o3, o6, o7, rfl, -, -, -⟩ := forL_inv (g := gN 3) (b := (sSeq (sPar [6, 7] (aR (eCall ha (aVal (eVar 0) (aVal (eVar 3) aNil))) (aR (eCall ha (aVal (eVar 1) (aVal (eVar 3) aNil))) aNil))) (sSeq (sIf (eNotT (eTru (eFz (eCall sa (aVal (eFz (eCall ho (aVal (eVar 5) (aVal (eVar 3) aNil)))) (aVal (eAnd (eVar 6) (eVar 7)) aNil)))))) (sRet (rV (eC (.bool false)))) sSkip) (sIf (eAndT (eOrT (eTru (eVar 6)) (eTru (eVar 7))) (eNotT (eTru (eFz (eCall sa (aVal (eFz (eCall ho (aVal (eVar 4) (aVal (eVar 3) aNil)))) (aVal (eC (.bool true)) aNil))))))) (sRet (rV (eC (.bool false)))) sSkip))))
    (I := fun e => ∃ o3 o6 o7 : Sl, e = [.val (eS a), .val (eS b), .val (.list (ns.map PyData.int)), o3, .val (eS (joinS a b)), .val (eS (meetS a b)), o6, o7] ∧ Fr o3 ∧ Fr o6 ∧ Fr o7) (ns.map PyData.int) [.val (eS a), .val (eS b), .val (.list (ns.map PyData.int)), .no, .val (eS (joinS a b)), .val (eS (meetS a b)), .no, .no]
    ⟨_, _, _, rfl, rfl, rfl, rfl⟩ (by
      rintro d hd e ⟨o3, o6, o7, rfl, f3, f6, f7⟩
      obtain ⟨k, _, rfl⟩ := List.mem_map.mp hd
      have s1 := hs (.bool (hasS a k && hasS b k)) rfl
      have s2 := hs (.bool true) rfl
      refine ⟨[.val (eS a), .val (eS b), .val (.list (ns.map PyData.int)), .val (.int k), .val (eS (joinS a b)), .val (eS (meetS a b)), o6, o7], [.val (eS a), .val (eS b), .val (.list (ns.map PyData.int)), .val (.int k), .val (eS (joinS a b)), .val (eS (meetS a b)), .val (.bool (hasS a k)), .val (.bool (hasS b k))], ?_, ?_, _, _, _, rfl, rfl, rfl, rfl⟩
      · simp! only [show isPar o3 = false from f3]
      · have hj : (hasS a k || hasS b k) = true → hasS (joinS a b) k = true := has_join
        cases q : (hasS a k || hasS b k) with
        | false =>
          simp! only [show isPar o6 = false from f6, show isPar o7 = false from f7, l0, h0 _ k (ok_meet a b), has_meet, s1, q]
        | true =>
          simp! only [show isPar o6 = false from f6, show isPar o7 = false from f7, l0, h0 _ k (ok_meet a b), h0 _ k (ok_join oa ob), has_meet, s1, s2, q, hj q])
  simp! only [k__law_numbers_right, k__law_numbers_right_b, h2 a b oa ob, h3 a b oa ob, he]
end
section
variable {nu st nr be tw th nb : Fn}
theorem app_eS (a b : SS) : ∃ es : List EE, es.length ≤ 4 ∧ gAdd (eS a) (eS b) = some (.tuple (es.map eE)) ∧ ∀ z, szS z a → szS z b → ∀ e ∈ es, szE z e := by
  rcases a with _ | ⟨a1, a2⟩ <;> rcases b with _ | ⟨b1, b2⟩
  · exact ⟨[], by decide, rfl, fun z _ _ e he => by cases he⟩
  · exact ⟨[b1, b2], by simp, rfl, fun z _ h e he => by
      rcases List.mem_cons.mp he with rfl | he
      · exact h.1
      · rw [List.mem_singleton.mp he]; exact h.2⟩
  · exact ⟨[a1, a2], by simp, rfl, fun z h _ e he => by
      rcases List.mem_cons.mp he with rfl | he
      · exact h.1
      · rw [List.mem_singleton.mp he]; exact h.2⟩
  · refine ⟨[a1, a2, b1, b2], by simp, rfl, fun z h h' e he => ?_⟩
    simp only [List.mem_cons, List.not_mem_nil, or_false] at he
    rcases he with rfl | rfl | rfl | rfl
    · exact h.1
    · exact h.2
    · exact h'.1
    · exact h'.2
theorem eS_map (a : SS) : ∃ es : List EE, es.length ≤ 2 ∧ eS a = .tuple (es.map eE) ∧ ∀ z, szS z a → ∀ e ∈ es, szE z e := by
  rcases a with _ | ⟨a1, a2⟩
  · exact ⟨[], by decide, rfl, fun z _ e he => by cases he⟩
  · exact ⟨[a1, a2], by simp, rfl, fun z h e he => by
      rcases List.mem_cons.mp he with rfl | he
      · exact h.1
      · rw [List.mem_singleton.mp he]; exact h.2⟩
theorem k24_right_ok (N : Nm 7 (2 ^ 110) nu) (S : St 9 (2 ^ 111) st) (R : Nr 10 nr) (B : Bs be)
    (T : ∀ a b, okS a = true → okS b = true → tw [.val (eS a), .val (eS b)] = some (.val (.bool true), [])) (H : ∀ a b c, okS a = true → okS b = true → okS c = true → th [.val (eS a), .val (eS b), .val (eS c)] = some (.val (.bool true), []))
    (K : ∀ a b (ns : List Int), okS a = true → okS b = true → nb [.val (eS a), .val (eS b), .val (.list (ns.map PyData.int))] = some (.val (.bool true), [])) : Rg (k__law_right nu st nr be tw th nb) := by
  intro ds h
  obtain ⟨a, d1, e1, oa, za, s1⟩ := S 99999000 ds (h.mono (by decide))
  obtain ⟨es1, n1, q1, w1⟩ := eS_map a
  obtain ⟨b, d2, e2, ob, zb, s2⟩ := R 99998000 d1 es1 (2 ^ 111) (s1.mono (by decide)) (w1 _ za) (by decide) (by omega)
  obtain ⟨es2, n2, q2, w2⟩ := app_eS a b
  obtain ⟨c, d3, e3, oc, zc, s3⟩ := R 99997000 d2 es2 (2 ^ 111 + 4) (s2.mono (by decide)) (w2 _ (za.mono (by decide)) zb) (by decide) (by omega)
  obtain ⟨v, d4, e4, -, -, s4⟩ := N 99996000 d3 (s3.mono (by decide))
  rw [← q1] at e2
  obtain ⟨ns, hns, hb⟩ := B es2 (by omega)
  have hl : (ns.map PyData.int).length + 1 ≤ 16777216 := by rw [List.length_map]; omega
  have ap : ns.map PyData.int ++ [.int v] = (ns ++ [v]).map PyData.int := by rw [List.map_append]; rfl
  refine ⟨d4, ?_⟩
  have ta := T a a oa oa
  rcases hb with hb | hb
  · simp! only [k__law_right, k__law_right_b, e1, e2, q2, e3, hb, e4, hl, ap, T a a oa oa, T a b oa ob, T a c oa oc, T b a ob oa, T b b ob ob, T b c ob oc, T c a oc oa, T c b oc ob, T c c oc oc, q_all3, H a b c oa ob oc, H c a b oc oa ob, K a b _ oa ob, K b c _ ob oc]
  · simp! only [k__law_right, k__law_right_b, e1, e2, q2, e3, hb, e4, hl, ap, T a a oa oa, T a b oa ob, T a c oa oc, T b a ob oa, T b b ob ob, T b c ob oc, T c a oc oa, T c b oc ob, T c c oc oc, q_all3, H a b c oa ob oc, H c a b oc oa ob, K a b _ oa ob, K b c _ ob oc]
end
/-! ## the law -/
def lawC (ri so : Fn) : Fx Fl := (sRet (rV (eBlt gAll (dCons (eFz (eComp (iRange1 (eBlt gMax (dCons (eC (.int 2)) (dCons (eBlt gMin (dCons (eLenN 0) (dCons (eC (.int 5)) dNil))) dNil)))) (gN 1) (fun env => some (true, env)) (eFz (eCall ri (aTmp (eCall so (aVal (eVar 0) (aVal (eVar 1) aNil))) aNil))) [1])) dNil))))
theorem law_ok {ri so : Fn} {ns : List Int} (hs : Sc ns so) (hr : Rg ri) : callFn 2 (lawC ri so) [.val (.list (ns.map PyData.int))] = some (.val (.bool true), []) := by
  have hm : ∃ m : Nat, max (2 : Int) (min ((ns.map PyData.int).length : Int) 5) = (m : Int) ∧ m ≤ 5 := ⟨(max (2 : Int) (min ((ns.map PyData.int).length : Int) 5)).toNat, by omega, by omega⟩
  obtain ⟨m, hm, hm5⟩ := hm
  have hc : compL (gN 1) (fun env => some (true, env)) (eFz (eCall ri (aTmp (eCall so (aVal (eVar 0) (aVal (eVar 1) aNil))) aNil))) [1] (rangeD 0 ((m : Int) - 0).toNat) [] [.val (.list (ns.map PyData.int)), .no] = some ([] ++ (rangeD 0 ((m : Int) - 0).toNat).map (fun _ => .bool true), [.val (.list (ns.map PyData.int)), .no]) := by
    refine compL_all _ [] ?_ fun d hd => ?_
    · unfold rangeD
      rw [List.length_map, List.length_range, List.length_nil, q_sz]
      omega
    · unfold rangeD at hd
      obtain ⟨k, hk, rfl⟩ := List.mem_map.mp hd
      have hk' := List.mem_range.mp hk
      obtain ⟨d1, e1, s1⟩ := hs (0 + (k : Nat)) (by omega) (by omega)
      obtain ⟨d2, e2⟩ := hr d1 s1
      refine ⟨[.val (.list (ns.map PyData.int)), .val (.int (0 + (k : Nat)))], [.val (.list (ns.map PyData.int)), .val (.int (0 + (k : Nat)))], [.val (.list (ns.map PyData.int)), .val (.int (0 + (k : Nat)))], ?_, rfl, ?_, ?_⟩
      · simp only [x_gN, x_setRv, List.getElem?_cons_zero, List.getElem?_cons_succ, q_pa0, List.set_cons_succ, List.set_cons_zero, Bool.false_eq_true, if_false]
      · simp only [x_fz, x_call, x_aTmp, x_aVal, x_aNil, x_var, List.getElem?_cons_zero, List.getElem?_cons_succ, natNodup, slotsOf, toAv, putOuts, Option.map_some, if_true, e1, e2]
      · rfl
  have ha : gAll [.list ((rangeD 0 ((m : Int) - 0).toNat).map (fun _ => .bool true))] = some (.bool true) := gAll_true fun d hd => by
    obtain ⟨_, _, rfl⟩ := List.mem_map.mp hd
    rfl
  simp! only [lawC, hm, hc, ha]
end Ev
namespace Ev
local macro_rules
  | `(tactic| simp! only [$as,*]) => `(tactic| simp only [↓x_var, ↓x_C, ↓x_op, ↓x_fz, ↓x_rV, ↓x_B, ↓x_chain, ↓x_tru, ↓x_notT, ↓x_andT, ↓x_orT, ↓x_and, ↓x_or, ↓x_not, ↓x_neg, ↓x_if, ↓x_aNil, ↓x_aVal, ↓x_aSlot, ↓x_aTmp, ↓x_aR, ↓x_call, ↓x_callK, ↓x_dNil, ↓x_dCons, ↓x_tup, ↓x_lst, ↓x_itemN, ↓x_ownItem, ↓x_lenN, ↓x_blt, ↓x_isi, ↓x_list, ↓x_rgL1, ↓x_rgL2, ↓x_iSeq, ↓x_iZip, ↓x_range1, ↓x_range2, ↓x_addR, ↓x_slice, ↓x_partN, ↓x_partS, ↓x_comp, ↓x_skip, ↓x_stuck, ↓x_break, ↓x_cont, ↓x_seq, ↓x_sIf, ↓x_sExpr, ↓x_ret, ↓x_retN, ↓x_move, ↓x_setRv, ↓x_setRf, ↓x_set, ↓x_gN, ↓x_gsNil, ↓x_gsCons, ↓x_gTup, ↓x_gIx, ↓x_setAt, ↓x_asg, ↓x_par, ↓x_sm0, ↓x_smV, ↓x_smF, ↓x_app, ↓x_for, ↓x_for0, ↓x_for1, ↓x_comp0, ↓x_comp1, ↓x_fn, ↓x_iEnum, ↓x_range3, ↓x_comp2, ↓x_compN0, ↓x_compN1, q_addI, q_addT, q_addL, q_subI, q_ltI, q_leI, q_gtI, q_geI, q_isN, q_isNotN, q_eqI, q_neI, q_eqB, q_eqT0, q_eqT1, q_neT0, q_neT1, q_eqL0, q_eqL1, q_neL0, q_neL1, q_int, q_abs, q_min2, q_max2, q_at0, q_at1, q_at2, q_at3, q_ix0, q_ix1, q_ix2, q_sz, q_iteS, q_iteT, q_iteR, q_iteV, q_iteBB, q_iteII, q_iteAnd, q_iteOr, q_iteNot, q_iteCon, q_pa0, q_pa1, q_pa2, q_pa3, q_ow0, q_ow1, q_ow2, q_ow3, q_c0, q_c1, q_c2, q_c3, q_c4, q_c5, q_c6, q_c7, q_c8, q_c9, q_c10, q_c11, q_c12, q_all0, q_all1, q_all2, q_all3, q_inN2, q_inN0, q_02a, q_02b, List.getElem?_cons_zero, List.getElem?_cons_succ, List.set_cons_zero, List.set_cons_succ, wipeE, initE, outsOf, toAv, slotsOf, putOuts, natNodup, List.map_cons, List.map_nil, List.cons_append, List.nil_append, List.append_nil, List.replicate, List.length_cons, List.length_nil, isNone, isiD, seqD, gItem, truD, zipOf, zipD, pick, List.contains_nil, List.contains_cons, eq_self, if_true, if_false, Bool.false_eq_true, Bool.true_eq_false, Bool.not_true, Bool.not_false, reduceIte, decide_true, decide_false, Nat.reduceAdd, Nat.reduceSub, Nat.zero_add, Nat.add_zero, and_self, true_and, and_true, Bool.and_true, Bool.true_and, Bool.or_false, Bool.false_or, Bool.or_true, Bool.true_or, Bool.and_false, Bool.false_and, Bool.or_self, Bool.and_self, Nat.sub_self, Option.map_some, Option.map_none, Nat.reduceBEq, Bool.not_eq_true, beq_self_eq_true, Nat.reduceLeDiff, Nat.reduceLT, Nat.reduceEqDiff, List.filterMap_cons, List.filterMap_nil, $as,*])
open PySem PySem.Spec PyProof.Rows L2
/-! ## k28: guards -/
inductive Wd4 where
  | lt | le | eq | ne
def Wd4.s : Wd4 → Str
  | .lt => "<" | .le => "<=" | .eq => "==" | .ne => "!="
theorem q_w1 : gEq (.str "<") (.str "<") = some (.bool true) := by kernel_rfl
theorem q_w2 : gEq (.str "<=") (.str "<") = some (.bool false) := by kernel_rfl
theorem q_w3 : gEq (.str "==") (.str "<") = some (.bool false) := by kernel_rfl
theorem q_w4 : gEq (.str "!=") (.str "<") = some (.bool false) := by kernel_rfl
theorem q_w5 : gEq (.str "<") (.str "<=") = some (.bool false) := by kernel_rfl
theorem q_w6 : gEq (.str "<=") (.str "<=") = some (.bool true) := by kernel_rfl
theorem q_w7 : gEq (.str "==") (.str "<=") = some (.bool false) := by kernel_rfl
theorem q_w8 : gEq (.str "!=") (.str "<=") = some (.bool false) := by kernel_rfl
theorem q_w9 : gEq (.str "<") (.str "==") = some (.bool false) := by kernel_rfl
theorem q_w10 : gEq (.str "<=") (.str "==") = some (.bool false) := by kernel_rfl
theorem q_w11 : gEq (.str "==") (.str "==") = some (.bool true) := by kernel_rfl
theorem q_w12 : gEq (.str "!=") (.str "==") = some (.bool false) := by kernel_rfl
theorem q_w13 : gEq (.str "<") (.str "!=") = some (.bool false) := by kernel_rfl
theorem q_w14 : gEq (.str "<=") (.str "!=") = some (.bool false) := by kernel_rfl
theorem q_w15 : gEq (.str "==") (.str "!=") = some (.bool false) := by kernel_rfl
theorem q_w16 : gEq (.str "!=") (.str "!=") = some (.bool true) := by kernel_rfl
theorem q_g1 : gNotIn (.str "<") (.tuple [(.str "<"), (.str "<="), (.str "=="), (.str "!=")]) = some (.bool false) := by kernel_rfl
theorem q_g2 : gNotIn (.str "<=") (.tuple [(.str "<"), (.str "<="), (.str "=="), (.str "!=")]) = some (.bool false) := by kernel_rfl
theorem q_g3 : gNotIn (.str "==") (.tuple [(.str "<"), (.str "<="), (.str "=="), (.str "!=")]) = some (.bool false) := by kernel_rfl
theorem q_g4 : gNotIn (.str "!=") (.tuple [(.str "<"), (.str "<="), (.str "=="), (.str "!=")]) = some (.bool false) := by kernel_rfl
theorem eqv_eE : ∀ x y : EE, PyData.eqv (eE x) (eE y) = decide (x = y)
  | none, none => rfl
  | none, some _ => rfl
  | some _, none => rfl
  | some i, some j => by
    show (i == j) = _
    by_cases h : i = j
    · subst h; simp
    · simp [h]
theorem depth_eE (x : EE) : (eE x).depth = 0 := by cases x <;> rfl
theorem q_en1 : gEq .none .none = some (.bool true) := by kernel_rfl
theorem q_en2 {i : Int} : gEq .none (.int i) = some (.bool false) := by simp [gEq, eqOk, PyData.depth, PyData.eqv]
theorem q_en3 {i : Int} : gEq (.int i) .none = some (.bool false) := by simp [gEq, eqOk, PyData.depth, PyData.eqv]
theorem q_nn1 : gNe .none .none = some (.bool false) := by kernel_rfl
theorem q_nn2 {i : Int} : gNe .none (.int i) = some (.bool true) := by simp [gNe, eqOk, PyData.depth, PyData.eqv]
theorem q_nn3 {i : Int} : gNe (.int i) .none = some (.bool true) := by simp [gNe, eqOk, PyData.depth, PyData.eqv]
theorem q_eqE (x y : EE) : gEq (eE x) (eE y) = some (.bool (decide (x = y))) := by
  have h : eqOk (eE x) (eE y) = true := decide_eq_true (by rw [depth_eE]; omega)
  unfold gEq
  rw [if_pos h, eqv_eE]
theorem q_neE (x y : EE) : gNe (eE x) (eE y) = some (.bool (!decide (x = y))) := by
  have h : eqOk (eE x) (eE y) = true := decide_eq_true (by rw [depth_eE]; omega)
  unfold gNe
  rw [if_pos h, eqv_eE]
theorem eqv_eS : ∀ a b : SS, PyData.eqv (eS a) (eS b) = decide (a = b)
  | none, none => rfl
  | none, some (_, _) => rfl
  | some (_, _), none => rfl
  | some (x, y), some (z, w) => by
    show PyData.eqv (.tuple [eE x, eE y]) (.tuple [eE z, eE w]) = _
    simp only [PyData.eqv, PyData.eqvAll, eqv_eE, Bool.and_true]
    by_cases h1 : x = z <;> by_cases h2 : y = w <;> simp [h1, h2]
theorem depth_eS (a : SS) : (eS a).depth ≤ 2 := by
  rcases a with _ | ⟨x, y⟩
  · simp [eS, PyData.depth, PyData.depthAll]
  · simp [eS, PyData.depth, PyData.depthAll, depth_eE]
theorem q_eqS (a b : SS) : gEq (eS a) (eS b) = some (.bool (decide (a = b))) := by
  have h : eqOk (eS a) (eS b) = true := decide_eq_true (by have := depth_eS a; omega)
  unfold gEq
  rw [if_pos h, eqv_eS]
theorem q_notin2 (a b : SS) : gNotIn (.tuple []) (.tuple [eS a, eS b]) = some (.bool (!(a.isNone || b.isNone))) := by
  have h : inOk [eS a, eS b] (.tuple []) = true := decide_eq_true (by simp [PyData.depth, PyData.depthAll]; omega)
  show (if inOk [eS a, eS b] (.tuple []) = true then some (PyData.bool (![eS a, eS b].any fun y => PyData.eqv y (.tuple []))) else none) = _
  rw [if_pos h]
  simp only [List.any_cons, List.any_nil, Bool.or_false]
  have e : ∀ z : SS, PyData.eqv (eS z) (.tuple []) = z.isNone := fun z => by
    have := eqv_eS z none
    rw [eS_n] at this
    rw [this]
    cases z <;> simp
  rw [e, e]
/-! ### what they do -/
theorem eE_n : eE none = .none := rfl
theorem eE_s {i : Int} : eE (some i) = .int i := rfl
def addE (x : EE) (k : Int) : EE := x.map (· + k)
def lessS (a b : SS) (k : Int) : SS × SS := match a, b with
  | some (a1, a2), some (b1, b2) => (meetS (some (a1, a2)) (some (none, addE b2 (-k))), meetS (some (b1, b2)) (some (addE a1 k, none)))
  | _, _ => (none, none)
def withoutS (a b : SS) : SS := match a, b with
  | some (l, h), some (o, o2) => if o = none ∨ o ≠ o2 then some (l, h) else if l = h then (if l = o then none else some (l, h)) else some (if l = o then addE l 1 else l, if h = o then addE h (-1) else h)
  | _, _ => none
def normS (p : SS × SS) : SS × SS := if p.1 = none ∨ p.2 = none then (none, none) else p
def guardS (w : Wd4) (a b : SS) : SS × SS := match w with
  | .eq => (meetS a b, meetS a b)
  | .ne => normS (withoutS a b, withoutS b a)
  | .lt => normS (lessS a b 1)
  | .le => normS (lessS a b 0)
def ePr (p : SS × SS) : D := .tuple [eS p.1, eS p.2]
section
variable {f g h w : Fn}
theorem k_end_sum_ok (x : EE) (k : Int) : k_end_sum [.val (eE x), .val (.int k)] = some (.val (eE (addE x k)), []) := by
  cases x <;> rfl
theorem k_less_ok (hm : ∀ a b, f [.val (eS a), .val (eS b)] = some (.val (eS (meetS a b)), [])) (hs : ∀ x k, g [.val (eE x), .val (.int k)] = some (.val (eE (addE x k)), [])) (a b : SS) (k : Int) :
    k_less_guarded f g [.val (eS a), .val (eS b), .val (.int k)] = some (.val (ePr (lessS a b k)), []) := by
  rcases a with _ | ⟨a1, a2⟩ <;> rcases b with _ | ⟨b1, b2⟩
  · simp! only [k_less_guarded, k_less_guarded_b, eS_n, eS_s, lessS, ePr]
  · simp! only [k_less_guarded, k_less_guarded_b, eS_n, eS_s, lessS, ePr]
  · simp! only [k_less_guarded, k_less_guarded_b, eS_n, eS_s, lessS, ePr]
  have m1 := hm (some (a1, a2)) (some (none, addE b2 (-k)))
  have m2 := hm (some (b1, b2)) (some (addE a1 k, none))
  simp only [eS_s, show eE none = .none from rfl] at m1 m2
  simp! only [k_less_guarded, k_less_guarded_b, eS_s, lessS, ePr, hs, m1, m2]
theorem k_without_ok (a b : SS) : k_without_one [.val (eS a), .val (eS b)] = some (.val (eS (withoutS a b)), []) := by
  rcases a with _ | ⟨l, r⟩ <;> rcases b with _ | ⟨o, o2⟩
  · simp! only [k_without_one, k_without_one_b, eS_n, eS_s, withoutS]
  · simp! only [k_without_one, k_without_one_b, eS_n, eS_s, withoutS]
  · simp! only [k_without_one, k_without_one_b, eS_n, eS_s, withoutS]
  rcases o with _ | o
  · simp! only [k_without_one, k_without_one_b, eS_n, eS_s, withoutS, eE, true_or]
  rcases o2 with _ | o2
  · rcases l with _ | l <;> rcases r with _ | r <;> simp [↓x_var, ↓x_C, ↓x_op, ↓x_fz, ↓x_rV, ↓x_B, ↓x_chain, ↓x_tru, ↓x_notT, ↓x_andT, ↓x_orT, ↓x_and, ↓x_or, ↓x_not, ↓x_neg, ↓x_if, ↓x_aNil, ↓x_aVal, ↓x_aSlot, ↓x_aTmp, ↓x_aR, ↓x_call, ↓x_callK, ↓x_dNil, ↓x_dCons, ↓x_tup, ↓x_lst, ↓x_itemN, ↓x_ownItem, ↓x_lenN, ↓x_blt, ↓x_isi, ↓x_list, ↓x_rgL1, ↓x_rgL2, ↓x_iSeq, ↓x_iZip, ↓x_range1, ↓x_range2, ↓x_addR, ↓x_slice, ↓x_partN, ↓x_partS, ↓x_comp, ↓x_skip, ↓x_stuck, ↓x_break, ↓x_cont, ↓x_seq, ↓x_sIf, ↓x_sExpr, ↓x_ret, ↓x_retN, ↓x_move, ↓x_setRv, ↓x_setRf, ↓x_set, ↓x_gN, ↓x_gsNil, ↓x_gsCons, ↓x_gTup, ↓x_gIx, ↓x_setAt, ↓x_asg, ↓x_par, ↓x_sm0, ↓x_smV, ↓x_smF, ↓x_app, ↓x_for, ↓x_for0, ↓x_for1, ↓x_comp0, ↓x_comp1, ↓x_fn, ↓x_iEnum, ↓x_range3, ↓x_comp2, ↓x_compN0, ↓x_compN1, q_addI, q_addT, q_addL, q_subI, q_ltI, q_leI, q_gtI, q_geI, q_isN, q_isNotN, q_eqI, q_neI, q_eqB, q_eqT0, q_eqT1, q_neT0, q_neT1, q_eqL0, q_eqL1, q_neL0, q_neL1, q_int, q_abs, q_min2, q_max2, q_at0, q_at1, q_at2, q_at3, q_ix0, q_ix1, q_ix2, q_sz, q_iteS, q_iteT, q_iteR, q_iteV, q_iteBB, q_iteII, q_iteAnd, q_iteOr, q_iteNot, q_iteCon, q_pa0, q_pa1, q_pa2, q_pa3, q_ow0, q_ow1, q_ow2, q_ow3, q_c0, q_c1, q_c2, q_c3, q_c4, q_c5, q_c6, q_c7, q_c8, q_c9, q_c10, q_c11, q_c12, q_all0, q_all1, q_all2, q_all3, q_inN2, q_inN0, q_02a, q_02b, List.getElem?_cons_zero, List.getElem?_cons_succ, List.set_cons_zero, List.set_cons_succ, wipeE, initE, outsOf, toAv, slotsOf, putOuts, natNodup, List.map_cons, List.map_nil, List.cons_append, List.nil_append, List.append_nil, List.replicate, List.length_cons, List.length_nil, isNone, isiD, seqD, gItem, truD, zipOf, zipD, pick, List.contains_nil, List.contains_cons, eq_self, if_true, if_false, Bool.false_eq_true, Bool.true_eq_false, Bool.not_true, Bool.not_false, reduceIte, decide_true, decide_false, Nat.reduceAdd, Nat.reduceSub, Nat.zero_add, Nat.add_zero, and_self, true_and, and_true, Bool.and_true, Bool.true_and, Bool.or_false, Bool.false_or, Bool.or_true, Bool.true_or, Bool.and_false, Bool.false_and, Bool.or_self, Bool.and_self, Nat.sub_self, Option.map_some, Option.map_none, Nat.reduceBEq, Bool.not_eq_true, beq_self_eq_true, Nat.reduceLeDiff, Nat.reduceLT, Nat.reduceEqDiff, List.filterMap_cons, List.filterMap_nil, k_without_one, k_without_one_b, eS, withoutS, eE, q_en1, q_en2, q_en3, q_nn1, q_nn2, q_nn3]
  by_cases c1 : o = o2
  · subst c1
    rcases l with _ | l <;> rcases r with _ | r
    · simp [↓x_var, ↓x_C, ↓x_op, ↓x_fz, ↓x_rV, ↓x_B, ↓x_chain, ↓x_tru, ↓x_notT, ↓x_andT, ↓x_orT, ↓x_and, ↓x_or, ↓x_not, ↓x_neg, ↓x_if, ↓x_aNil, ↓x_aVal, ↓x_aSlot, ↓x_aTmp, ↓x_aR, ↓x_call, ↓x_callK, ↓x_dNil, ↓x_dCons, ↓x_tup, ↓x_lst, ↓x_itemN, ↓x_ownItem, ↓x_lenN, ↓x_blt, ↓x_isi, ↓x_list, ↓x_rgL1, ↓x_rgL2, ↓x_iSeq, ↓x_iZip, ↓x_range1, ↓x_range2, ↓x_addR, ↓x_slice, ↓x_partN, ↓x_partS, ↓x_comp, ↓x_skip, ↓x_stuck, ↓x_break, ↓x_cont, ↓x_seq, ↓x_sIf, ↓x_sExpr, ↓x_ret, ↓x_retN, ↓x_move, ↓x_setRv, ↓x_setRf, ↓x_set, ↓x_gN, ↓x_gsNil, ↓x_gsCons, ↓x_gTup, ↓x_gIx, ↓x_setAt, ↓x_asg, ↓x_par, ↓x_sm0, ↓x_smV, ↓x_smF, ↓x_app, ↓x_for, ↓x_for0, ↓x_for1, ↓x_comp0, ↓x_comp1, ↓x_fn, ↓x_iEnum, ↓x_range3, ↓x_comp2, ↓x_compN0, ↓x_compN1, q_addI, q_addT, q_addL, q_subI, q_ltI, q_leI, q_gtI, q_geI, q_isN, q_isNotN, q_eqI, q_neI, q_eqB, q_eqT0, q_eqT1, q_neT0, q_neT1, q_eqL0, q_eqL1, q_neL0, q_neL1, q_int, q_abs, q_min2, q_max2, q_at0, q_at1, q_at2, q_at3, q_ix0, q_ix1, q_ix2, q_sz, q_iteS, q_iteT, q_iteR, q_iteV, q_iteBB, q_iteII, q_iteAnd, q_iteOr, q_iteNot, q_iteCon, q_pa0, q_pa1, q_pa2, q_pa3, q_ow0, q_ow1, q_ow2, q_ow3, q_c0, q_c1, q_c2, q_c3, q_c4, q_c5, q_c6, q_c7, q_c8, q_c9, q_c10, q_c11, q_c12, q_all0, q_all1, q_all2, q_all3, q_inN2, q_inN0, q_02a, q_02b, List.getElem?_cons_zero, List.getElem?_cons_succ, List.set_cons_zero, List.set_cons_succ, wipeE, initE, outsOf, toAv, slotsOf, putOuts, natNodup, List.map_cons, List.map_nil, List.cons_append, List.nil_append, List.append_nil, List.replicate, List.length_cons, List.length_nil, isNone, isiD, seqD, gItem, truD, zipOf, zipD, pick, List.contains_nil, List.contains_cons, eq_self, if_true, if_false, Bool.false_eq_true, Bool.true_eq_false, Bool.not_true, Bool.not_false, reduceIte, decide_true, decide_false, Nat.reduceAdd, Nat.reduceSub, Nat.zero_add, Nat.add_zero, and_self, true_and, and_true, Bool.and_true, Bool.true_and, Bool.or_false, Bool.false_or, Bool.or_true, Bool.true_or, Bool.and_false, Bool.false_and, Bool.or_self, Bool.and_self, Nat.sub_self, Option.map_some, Option.map_none, Nat.reduceBEq, Bool.not_eq_true, beq_self_eq_true, Nat.reduceLeDiff, Nat.reduceLT, Nat.reduceEqDiff, List.filterMap_cons, List.filterMap_nil, k_without_one, k_without_one_b, eS, withoutS, eE, q_en1, q_en2, q_en3, q_nn1, q_nn2, q_nn3, addE]
    · by_cases c4 : r = o <;> simp [↓x_var, ↓x_C, ↓x_op, ↓x_fz, ↓x_rV, ↓x_B, ↓x_chain, ↓x_tru, ↓x_notT, ↓x_andT, ↓x_orT, ↓x_and, ↓x_or, ↓x_not, ↓x_neg, ↓x_if, ↓x_aNil, ↓x_aVal, ↓x_aSlot, ↓x_aTmp, ↓x_aR, ↓x_call, ↓x_callK, ↓x_dNil, ↓x_dCons, ↓x_tup, ↓x_lst, ↓x_itemN, ↓x_ownItem, ↓x_lenN, ↓x_blt, ↓x_isi, ↓x_list, ↓x_rgL1, ↓x_rgL2, ↓x_iSeq, ↓x_iZip, ↓x_range1, ↓x_range2, ↓x_addR, ↓x_slice, ↓x_partN, ↓x_partS, ↓x_comp, ↓x_skip, ↓x_stuck, ↓x_break, ↓x_cont, ↓x_seq, ↓x_sIf, ↓x_sExpr, ↓x_ret, ↓x_retN, ↓x_move, ↓x_setRv, ↓x_setRf, ↓x_set, ↓x_gN, ↓x_gsNil, ↓x_gsCons, ↓x_gTup, ↓x_gIx, ↓x_setAt, ↓x_asg, ↓x_par, ↓x_sm0, ↓x_smV, ↓x_smF, ↓x_app, ↓x_for, ↓x_for0, ↓x_for1, ↓x_comp0, ↓x_comp1, ↓x_fn, ↓x_iEnum, ↓x_range3, ↓x_comp2, ↓x_compN0, ↓x_compN1, q_addI, q_addT, q_addL, q_subI, q_ltI, q_leI, q_gtI, q_geI, q_isN, q_isNotN, q_eqI, q_neI, q_eqB, q_eqT0, q_eqT1, q_neT0, q_neT1, q_eqL0, q_eqL1, q_neL0, q_neL1, q_int, q_abs, q_min2, q_max2, q_at0, q_at1, q_at2, q_at3, q_ix0, q_ix1, q_ix2, q_sz, q_iteS, q_iteT, q_iteR, q_iteV, q_iteBB, q_iteII, q_iteAnd, q_iteOr, q_iteNot, q_iteCon, q_pa0, q_pa1, q_pa2, q_pa3, q_ow0, q_ow1, q_ow2, q_ow3, q_c0, q_c1, q_c2, q_c3, q_c4, q_c5, q_c6, q_c7, q_c8, q_c9, q_c10, q_c11, q_c12, q_all0, q_all1, q_all2, q_all3, q_inN2, q_inN0, q_02a, q_02b, List.getElem?_cons_zero, List.getElem?_cons_succ, List.set_cons_zero, List.set_cons_succ, wipeE, initE, outsOf, toAv, slotsOf, putOuts, natNodup, List.map_cons, List.map_nil, List.cons_append, List.nil_append, List.append_nil, List.replicate, List.length_cons, List.length_nil, isNone, isiD, seqD, gItem, truD, zipOf, zipD, pick, List.contains_nil, List.contains_cons, eq_self, if_true, if_false, Bool.false_eq_true, Bool.true_eq_false, Bool.not_true, Bool.not_false, reduceIte, decide_true, decide_false, Nat.reduceAdd, Nat.reduceSub, Nat.zero_add, Nat.add_zero, and_self, true_and, and_true, Bool.and_true, Bool.true_and, Bool.or_false, Bool.false_or, Bool.or_true, Bool.true_or, Bool.and_false, Bool.false_and, Bool.or_self, Bool.and_self, Nat.sub_self, Option.map_some, Option.map_none, Nat.reduceBEq, Bool.not_eq_true, beq_self_eq_true, Nat.reduceLeDiff, Nat.reduceLT, Nat.reduceEqDiff, List.filterMap_cons, List.filterMap_nil, k_without_one, k_without_one_b, eS, withoutS, eE, q_en1, q_en2, q_en3, q_nn1, q_nn2, q_nn3, addE, c4] <;> rfl
    · by_cases c4 : l = o <;> simp [↓x_var, ↓x_C, ↓x_op, ↓x_fz, ↓x_rV, ↓x_B, ↓x_chain, ↓x_tru, ↓x_notT, ↓x_andT, ↓x_orT, ↓x_and, ↓x_or, ↓x_not, ↓x_neg, ↓x_if, ↓x_aNil, ↓x_aVal, ↓x_aSlot, ↓x_aTmp, ↓x_aR, ↓x_call, ↓x_callK, ↓x_dNil, ↓x_dCons, ↓x_tup, ↓x_lst, ↓x_itemN, ↓x_ownItem, ↓x_lenN, ↓x_blt, ↓x_isi, ↓x_list, ↓x_rgL1, ↓x_rgL2, ↓x_iSeq, ↓x_iZip, ↓x_range1, ↓x_range2, ↓x_addR, ↓x_slice, ↓x_partN, ↓x_partS, ↓x_comp, ↓x_skip, ↓x_stuck, ↓x_break, ↓x_cont, ↓x_seq, ↓x_sIf, ↓x_sExpr, ↓x_ret, ↓x_retN, ↓x_move, ↓x_setRv, ↓x_setRf, ↓x_set, ↓x_gN, ↓x_gsNil, ↓x_gsCons, ↓x_gTup, ↓x_gIx, ↓x_setAt, ↓x_asg, ↓x_par, ↓x_sm0, ↓x_smV, ↓x_smF, ↓x_app, ↓x_for, ↓x_for0, ↓x_for1, ↓x_comp0, ↓x_comp1, ↓x_fn, ↓x_iEnum, ↓x_range3, ↓x_comp2, ↓x_compN0, ↓x_compN1, q_addI, q_addT, q_addL, q_subI, q_ltI, q_leI, q_gtI, q_geI, q_isN, q_isNotN, q_eqI, q_neI, q_eqB, q_eqT0, q_eqT1, q_neT0, q_neT1, q_eqL0, q_eqL1, q_neL0, q_neL1, q_int, q_abs, q_min2, q_max2, q_at0, q_at1, q_at2, q_at3, q_ix0, q_ix1, q_ix2, q_sz, q_iteS, q_iteT, q_iteR, q_iteV, q_iteBB, q_iteII, q_iteAnd, q_iteOr, q_iteNot, q_iteCon, q_pa0, q_pa1, q_pa2, q_pa3, q_ow0, q_ow1, q_ow2, q_ow3, q_c0, q_c1, q_c2, q_c3, q_c4, q_c5, q_c6, q_c7, q_c8, q_c9, q_c10, q_c11, q_c12, q_all0, q_all1, q_all2, q_all3, q_inN2, q_inN0, q_02a, q_02b, List.getElem?_cons_zero, List.getElem?_cons_succ, List.set_cons_zero, List.set_cons_succ, wipeE, initE, outsOf, toAv, slotsOf, putOuts, natNodup, List.map_cons, List.map_nil, List.cons_append, List.nil_append, List.append_nil, List.replicate, List.length_cons, List.length_nil, isNone, isiD, seqD, gItem, truD, zipOf, zipD, pick, List.contains_nil, List.contains_cons, eq_self, if_true, if_false, Bool.false_eq_true, Bool.true_eq_false, Bool.not_true, Bool.not_false, reduceIte, decide_true, decide_false, Nat.reduceAdd, Nat.reduceSub, Nat.zero_add, Nat.add_zero, and_self, true_and, and_true, Bool.and_true, Bool.true_and, Bool.or_false, Bool.false_or, Bool.or_true, Bool.true_or, Bool.and_false, Bool.false_and, Bool.or_self, Bool.and_self, Nat.sub_self, Option.map_some, Option.map_none, Nat.reduceBEq, Bool.not_eq_true, beq_self_eq_true, Nat.reduceLeDiff, Nat.reduceLT, Nat.reduceEqDiff, List.filterMap_cons, List.filterMap_nil, k_without_one, k_without_one_b, eS, withoutS, eE, q_en1, q_en2, q_en3, q_nn1, q_nn2, q_nn3, addE, c4] <;> rfl
    · by_cases c2 : l = r
      · subst c2
        by_cases c4 : l = o <;> simp [↓x_var, ↓x_C, ↓x_op, ↓x_fz, ↓x_rV, ↓x_B, ↓x_chain, ↓x_tru, ↓x_notT, ↓x_andT, ↓x_orT, ↓x_and, ↓x_or, ↓x_not, ↓x_neg, ↓x_if, ↓x_aNil, ↓x_aVal, ↓x_aSlot, ↓x_aTmp, ↓x_aR, ↓x_call, ↓x_callK, ↓x_dNil, ↓x_dCons, ↓x_tup, ↓x_lst, ↓x_itemN, ↓x_ownItem, ↓x_lenN, ↓x_blt, ↓x_isi, ↓x_list, ↓x_rgL1, ↓x_rgL2, ↓x_iSeq, ↓x_iZip, ↓x_range1, ↓x_range2, ↓x_addR, ↓x_slice, ↓x_partN, ↓x_partS, ↓x_comp, ↓x_skip, ↓x_stuck, ↓x_break, ↓x_cont, ↓x_seq, ↓x_sIf, ↓x_sExpr, ↓x_ret, ↓x_retN, ↓x_move, ↓x_setRv, ↓x_setRf, ↓x_set, ↓x_gN, ↓x_gsNil, ↓x_gsCons, ↓x_gTup, ↓x_gIx, ↓x_setAt, ↓x_asg, ↓x_par, ↓x_sm0, ↓x_smV, ↓x_smF, ↓x_app, ↓x_for, ↓x_for0, ↓x_for1, ↓x_comp0, ↓x_comp1, ↓x_fn, ↓x_iEnum, ↓x_range3, ↓x_comp2, ↓x_compN0, ↓x_compN1, q_addI, q_addT, q_addL, q_subI, q_ltI, q_leI, q_gtI, q_geI, q_isN, q_isNotN, q_eqI, q_neI, q_eqB, q_eqT0, q_eqT1, q_neT0, q_neT1, q_eqL0, q_eqL1, q_neL0, q_neL1, q_int, q_abs, q_min2, q_max2, q_at0, q_at1, q_at2, q_at3, q_ix0, q_ix1, q_ix2, q_sz, q_iteS, q_iteT, q_iteR, q_iteV, q_iteBB, q_iteII, q_iteAnd, q_iteOr, q_iteNot, q_iteCon, q_pa0, q_pa1, q_pa2, q_pa3, q_ow0, q_ow1, q_ow2, q_ow3, q_c0, q_c1, q_c2, q_c3, q_c4, q_c5, q_c6, q_c7, q_c8, q_c9, q_c10, q_c11, q_c12, q_all0, q_all1, q_all2, q_all3, q_inN2, q_inN0, q_02a, q_02b, List.getElem?_cons_zero, List.getElem?_cons_succ, List.set_cons_zero, List.set_cons_succ, wipeE, initE, outsOf, toAv, slotsOf, putOuts, natNodup, List.map_cons, List.map_nil, List.cons_append, List.nil_append, List.append_nil, List.replicate, List.length_cons, List.length_nil, isNone, isiD, seqD, gItem, truD, zipOf, zipD, pick, List.contains_nil, List.contains_cons, eq_self, if_true, if_false, Bool.false_eq_true, Bool.true_eq_false, Bool.not_true, Bool.not_false, reduceIte, decide_true, decide_false, Nat.reduceAdd, Nat.reduceSub, Nat.zero_add, Nat.add_zero, and_self, true_and, and_true, Bool.and_true, Bool.true_and, Bool.or_false, Bool.false_or, Bool.or_true, Bool.true_or, Bool.and_false, Bool.false_and, Bool.or_self, Bool.and_self, Nat.sub_self, Option.map_some, Option.map_none, Nat.reduceBEq, Bool.not_eq_true, beq_self_eq_true, Nat.reduceLeDiff, Nat.reduceLT, Nat.reduceEqDiff, List.filterMap_cons, List.filterMap_nil, k_without_one, k_without_one_b, eS, withoutS, eE, q_en1, q_en2, q_en3, q_nn1, q_nn2, q_nn3, addE, c4]
      · by_cases c3 : l = o
        · subst c3
          have c4 : ¬ r = l := fun z => c2 z.symm
          simp [↓x_var, ↓x_C, ↓x_op, ↓x_fz, ↓x_rV, ↓x_B, ↓x_chain, ↓x_tru, ↓x_notT, ↓x_andT, ↓x_orT, ↓x_and, ↓x_or, ↓x_not, ↓x_neg, ↓x_if, ↓x_aNil, ↓x_aVal, ↓x_aSlot, ↓x_aTmp, ↓x_aR, ↓x_call, ↓x_callK, ↓x_dNil, ↓x_dCons, ↓x_tup, ↓x_lst, ↓x_itemN, ↓x_ownItem, ↓x_lenN, ↓x_blt, ↓x_isi, ↓x_list, ↓x_rgL1, ↓x_rgL2, ↓x_iSeq, ↓x_iZip, ↓x_range1, ↓x_range2, ↓x_addR, ↓x_slice, ↓x_partN, ↓x_partS, ↓x_comp, ↓x_skip, ↓x_stuck, ↓x_break, ↓x_cont, ↓x_seq, ↓x_sIf, ↓x_sExpr, ↓x_ret, ↓x_retN, ↓x_move, ↓x_setRv, ↓x_setRf, ↓x_set, ↓x_gN, ↓x_gsNil, ↓x_gsCons, ↓x_gTup, ↓x_gIx, ↓x_setAt, ↓x_asg, ↓x_par, ↓x_sm0, ↓x_smV, ↓x_smF, ↓x_app, ↓x_for, ↓x_for0, ↓x_for1, ↓x_comp0, ↓x_comp1, ↓x_fn, ↓x_iEnum, ↓x_range3, ↓x_comp2, ↓x_compN0, ↓x_compN1, q_addI, q_addT, q_addL, q_subI, q_ltI, q_leI, q_gtI, q_geI, q_isN, q_isNotN, q_eqI, q_neI, q_eqB, q_eqT0, q_eqT1, q_neT0, q_neT1, q_eqL0, q_eqL1, q_neL0, q_neL1, q_int, q_abs, q_min2, q_max2, q_at0, q_at1, q_at2, q_at3, q_ix0, q_ix1, q_ix2, q_sz, q_iteS, q_iteT, q_iteR, q_iteV, q_iteBB, q_iteII, q_iteAnd, q_iteOr, q_iteNot, q_iteCon, q_pa0, q_pa1, q_pa2, q_pa3, q_ow0, q_ow1, q_ow2, q_ow3, q_c0, q_c1, q_c2, q_c3, q_c4, q_c5, q_c6, q_c7, q_c8, q_c9, q_c10, q_c11, q_c12, q_all0, q_all1, q_all2, q_all3, q_inN2, q_inN0, q_02a, q_02b, List.getElem?_cons_zero, List.getElem?_cons_succ, List.set_cons_zero, List.set_cons_succ, wipeE, initE, outsOf, toAv, slotsOf, putOuts, natNodup, List.map_cons, List.map_nil, List.cons_append, List.nil_append, List.append_nil, List.replicate, List.length_cons, List.length_nil, isNone, isiD, seqD, gItem, truD, zipOf, zipD, pick, List.contains_nil, List.contains_cons, eq_self, if_true, if_false, Bool.false_eq_true, Bool.true_eq_false, Bool.not_true, Bool.not_false, reduceIte, decide_true, decide_false, Nat.reduceAdd, Nat.reduceSub, Nat.zero_add, Nat.add_zero, and_self, true_and, and_true, Bool.and_true, Bool.true_and, Bool.or_false, Bool.false_or, Bool.or_true, Bool.true_or, Bool.and_false, Bool.false_and, Bool.or_self, Bool.and_self, Nat.sub_self, Option.map_some, Option.map_none, Nat.reduceBEq, Bool.not_eq_true, beq_self_eq_true, Nat.reduceLeDiff, Nat.reduceLT, Nat.reduceEqDiff, List.filterMap_cons, List.filterMap_nil, k_without_one, k_without_one_b, eS, withoutS, eE, q_en1, q_en2, q_en3, q_nn1, q_nn2, q_nn3, addE, c2, c4]
        · by_cases c4 : r = o
          · subst c4
            simp [↓x_var, ↓x_C, ↓x_op, ↓x_fz, ↓x_rV, ↓x_B, ↓x_chain, ↓x_tru, ↓x_notT, ↓x_andT, ↓x_orT, ↓x_and, ↓x_or, ↓x_not, ↓x_neg, ↓x_if, ↓x_aNil, ↓x_aVal, ↓x_aSlot, ↓x_aTmp, ↓x_aR, ↓x_call, ↓x_callK, ↓x_dNil, ↓x_dCons, ↓x_tup, ↓x_lst, ↓x_itemN, ↓x_ownItem, ↓x_lenN, ↓x_blt, ↓x_isi, ↓x_list, ↓x_rgL1, ↓x_rgL2, ↓x_iSeq, ↓x_iZip, ↓x_range1, ↓x_range2, ↓x_addR, ↓x_slice, ↓x_partN, ↓x_partS, ↓x_comp, ↓x_skip, ↓x_stuck, ↓x_break, ↓x_cont, ↓x_seq, ↓x_sIf, ↓x_sExpr, ↓x_ret, ↓x_retN, ↓x_move, ↓x_setRv, ↓x_setRf, ↓x_set, ↓x_gN, ↓x_gsNil, ↓x_gsCons, ↓x_gTup, ↓x_gIx, ↓x_setAt, ↓x_asg, ↓x_par, ↓x_sm0, ↓x_smV, ↓x_smF, ↓x_app, ↓x_for, ↓x_for0, ↓x_for1, ↓x_comp0, ↓x_comp1, ↓x_fn, ↓x_iEnum, ↓x_range3, ↓x_comp2, ↓x_compN0, ↓x_compN1, q_addI, q_addT, q_addL, q_subI, q_ltI, q_leI, q_gtI, q_geI, q_isN, q_isNotN, q_eqI, q_neI, q_eqB, q_eqT0, q_eqT1, q_neT0, q_neT1, q_eqL0, q_eqL1, q_neL0, q_neL1, q_int, q_abs, q_min2, q_max2, q_at0, q_at1, q_at2, q_at3, q_ix0, q_ix1, q_ix2, q_sz, q_iteS, q_iteT, q_iteR, q_iteV, q_iteBB, q_iteII, q_iteAnd, q_iteOr, q_iteNot, q_iteCon, q_pa0, q_pa1, q_pa2, q_pa3, q_ow0, q_ow1, q_ow2, q_ow3, q_c0, q_c1, q_c2, q_c3, q_c4, q_c5, q_c6, q_c7, q_c8, q_c9, q_c10, q_c11, q_c12, q_all0, q_all1, q_all2, q_all3, q_inN2, q_inN0, q_02a, q_02b, List.getElem?_cons_zero, List.getElem?_cons_succ, List.set_cons_zero, List.set_cons_succ, wipeE, initE, outsOf, toAv, slotsOf, putOuts, natNodup, List.map_cons, List.map_nil, List.cons_append, List.nil_append, List.append_nil, List.replicate, List.length_cons, List.length_nil, isNone, isiD, seqD, gItem, truD, zipOf, zipD, pick, List.contains_nil, List.contains_cons, eq_self, if_true, if_false, Bool.false_eq_true, Bool.true_eq_false, Bool.not_true, Bool.not_false, reduceIte, decide_true, decide_false, Nat.reduceAdd, Nat.reduceSub, Nat.zero_add, Nat.add_zero, and_self, true_and, and_true, Bool.and_true, Bool.true_and, Bool.or_false, Bool.false_or, Bool.or_true, Bool.true_or, Bool.and_false, Bool.false_and, Bool.or_self, Bool.and_self, Nat.sub_self, Option.map_some, Option.map_none, Nat.reduceBEq, Bool.not_eq_true, beq_self_eq_true, Nat.reduceLeDiff, Nat.reduceLT, Nat.reduceEqDiff, List.filterMap_cons, List.filterMap_nil, k_without_one, k_without_one_b, eS, withoutS, eE, q_en1, q_en2, q_en3, q_nn1, q_nn2, q_nn3, addE, c2] <;> rfl
          · simp [↓x_var, ↓x_C, ↓x_op, ↓x_fz, ↓x_rV, ↓x_B, ↓x_chain, ↓x_tru, ↓x_notT, ↓x_andT, ↓x_orT, ↓x_and, ↓x_or, ↓x_not, ↓x_neg, ↓x_if, ↓x_aNil, ↓x_aVal, ↓x_aSlot, ↓x_aTmp, ↓x_aR, ↓x_call, ↓x_callK, ↓x_dNil, ↓x_dCons, ↓x_tup, ↓x_lst, ↓x_itemN, ↓x_ownItem, ↓x_lenN, ↓x_blt, ↓x_isi, ↓x_list, ↓x_rgL1, ↓x_rgL2, ↓x_iSeq, ↓x_iZip, ↓x_range1, ↓x_range2, ↓x_addR, ↓x_slice, ↓x_partN, ↓x_partS, ↓x_comp, ↓x_skip, ↓x_stuck, ↓x_break, ↓x_cont, ↓x_seq, ↓x_sIf, ↓x_sExpr, ↓x_ret, ↓x_retN, ↓x_move, ↓x_setRv, ↓x_setRf, ↓x_set, ↓x_gN, ↓x_gsNil, ↓x_gsCons, ↓x_gTup, ↓x_gIx, ↓x_setAt, ↓x_asg, ↓x_par, ↓x_sm0, ↓x_smV, ↓x_smF, ↓x_app, ↓x_for, ↓x_for0, ↓x_for1, ↓x_comp0, ↓x_comp1, ↓x_fn, ↓x_iEnum, ↓x_range3, ↓x_comp2, ↓x_compN0, ↓x_compN1, q_addI, q_addT, q_addL, q_subI, q_ltI, q_leI, q_gtI, q_geI, q_isN, q_isNotN, q_eqI, q_neI, q_eqB, q_eqT0, q_eqT1, q_neT0, q_neT1, q_eqL0, q_eqL1, q_neL0, q_neL1, q_int, q_abs, q_min2, q_max2, q_at0, q_at1, q_at2, q_at3, q_ix0, q_ix1, q_ix2, q_sz, q_iteS, q_iteT, q_iteR, q_iteV, q_iteBB, q_iteII, q_iteAnd, q_iteOr, q_iteNot, q_iteCon, q_pa0, q_pa1, q_pa2, q_pa3, q_ow0, q_ow1, q_ow2, q_ow3, q_c0, q_c1, q_c2, q_c3, q_c4, q_c5, q_c6, q_c7, q_c8, q_c9, q_c10, q_c11, q_c12, q_all0, q_all1, q_all2, q_all3, q_inN2, q_inN0, q_02a, q_02b, List.getElem?_cons_zero, List.getElem?_cons_succ, List.set_cons_zero, List.set_cons_succ, wipeE, initE, outsOf, toAv, slotsOf, putOuts, natNodup, List.map_cons, List.map_nil, List.cons_append, List.nil_append, List.append_nil, List.replicate, List.length_cons, List.length_nil, isNone, isiD, seqD, gItem, truD, zipOf, zipD, pick, List.contains_nil, List.contains_cons, eq_self, if_true, if_false, Bool.false_eq_true, Bool.true_eq_false, Bool.not_true, Bool.not_false, reduceIte, decide_true, decide_false, Nat.reduceAdd, Nat.reduceSub, Nat.zero_add, Nat.add_zero, and_self, true_and, and_true, Bool.and_true, Bool.true_and, Bool.or_false, Bool.false_or, Bool.or_true, Bool.true_or, Bool.and_false, Bool.false_and, Bool.or_self, Bool.and_self, Nat.sub_self, Option.map_some, Option.map_none, Nat.reduceBEq, Bool.not_eq_true, beq_self_eq_true, Nat.reduceLeDiff, Nat.reduceLT, Nat.reduceEqDiff, List.filterMap_cons, List.filterMap_nil, k_without_one, k_without_one_b, eS, withoutS, eE, q_en1, q_en2, q_en3, q_nn1, q_nn2, q_nn3, addE, c2, c3, c4]
  · rcases l with _ | l <;> rcases r with _ | r <;> simp [↓x_var, ↓x_C, ↓x_op, ↓x_fz, ↓x_rV, ↓x_B, ↓x_chain, ↓x_tru, ↓x_notT, ↓x_andT, ↓x_orT, ↓x_and, ↓x_or, ↓x_not, ↓x_neg, ↓x_if, ↓x_aNil, ↓x_aVal, ↓x_aSlot, ↓x_aTmp, ↓x_aR, ↓x_call, ↓x_callK, ↓x_dNil, ↓x_dCons, ↓x_tup, ↓x_lst, ↓x_itemN, ↓x_ownItem, ↓x_lenN, ↓x_blt, ↓x_isi, ↓x_list, ↓x_rgL1, ↓x_rgL2, ↓x_iSeq, ↓x_iZip, ↓x_range1, ↓x_range2, ↓x_addR, ↓x_slice, ↓x_partN, ↓x_partS, ↓x_comp, ↓x_skip, ↓x_stuck, ↓x_break, ↓x_cont, ↓x_seq, ↓x_sIf, ↓x_sExpr, ↓x_ret, ↓x_retN, ↓x_move, ↓x_setRv, ↓x_setRf, ↓x_set, ↓x_gN, ↓x_gsNil, ↓x_gsCons, ↓x_gTup, ↓x_gIx, ↓x_setAt, ↓x_asg, ↓x_par, ↓x_sm0, ↓x_smV, ↓x_smF, ↓x_app, ↓x_for, ↓x_for0, ↓x_for1, ↓x_comp0, ↓x_comp1, ↓x_fn, ↓x_iEnum, ↓x_range3, ↓x_comp2, ↓x_compN0, ↓x_compN1, q_addI, q_addT, q_addL, q_subI, q_ltI, q_leI, q_gtI, q_geI, q_isN, q_isNotN, q_eqI, q_neI, q_eqB, q_eqT0, q_eqT1, q_neT0, q_neT1, q_eqL0, q_eqL1, q_neL0, q_neL1, q_int, q_abs, q_min2, q_max2, q_at0, q_at1, q_at2, q_at3, q_ix0, q_ix1, q_ix2, q_sz, q_iteS, q_iteT, q_iteR, q_iteV, q_iteBB, q_iteII, q_iteAnd, q_iteOr, q_iteNot, q_iteCon, q_pa0, q_pa1, q_pa2, q_pa3, q_ow0, q_ow1, q_ow2, q_ow3, q_c0, q_c1, q_c2, q_c3, q_c4, q_c5, q_c6, q_c7, q_c8, q_c9, q_c10, q_c11, q_c12, q_all0, q_all1, q_all2, q_all3, q_inN2, q_inN0, q_02a, q_02b, List.getElem?_cons_zero, List.getElem?_cons_succ, List.set_cons_zero, List.set_cons_succ, wipeE, initE, outsOf, toAv, slotsOf, putOuts, natNodup, List.map_cons, List.map_nil, List.cons_append, List.nil_append, List.append_nil, List.replicate, List.length_cons, List.length_nil, isNone, isiD, seqD, gItem, truD, zipOf, zipD, pick, List.contains_nil, List.contains_cons, eq_self, if_true, if_false, Bool.false_eq_true, Bool.true_eq_false, Bool.not_true, Bool.not_false, reduceIte, decide_true, decide_false, Nat.reduceAdd, Nat.reduceSub, Nat.zero_add, Nat.add_zero, and_self, true_and, and_true, Bool.and_true, Bool.true_and, Bool.or_false, Bool.false_or, Bool.or_true, Bool.true_or, Bool.and_false, Bool.false_and, Bool.or_self, Bool.and_self, Nat.sub_self, Option.map_some, Option.map_none, Nat.reduceBEq, Bool.not_eq_true, beq_self_eq_true, Nat.reduceLeDiff, Nat.reduceLT, Nat.reduceEqDiff, List.filterMap_cons, List.filterMap_nil, k_without_one, k_without_one_b, eS, withoutS, eE, q_en1, q_en2, q_en3, q_nn1, q_nn2, q_nn3, c1]
theorem q_mulT2 {x : D} : gMul (.tuple [x]) (.int 2) = some (.tuple [x, x]) := by
  show (if [x] ≠ [] ∧ (2 : Int) ≤ 2 ∧ (2 : Int) ≤ 1000 ∧ [x].length ≤ 1000 then some (PyData.tuple (List.replicate (2 : Int).toNat [x]).flatten) else none) = _
  rw [if_pos ⟨by simp, by decide, by decide, by simp⟩]
  rfl
theorem ePr_norm (x y : SS) : ePr (normS (x, y)) = if (!(x.isNone || y.isNone)) = true then .tuple [eS x, eS y] else .tuple [.tuple [], .tuple []] := by
  cases x <;> cases y <;> simp [ePr, normS, eS_n]
theorem k_guarded_ok (hm : ∀ a b, f [.val (eS a), .val (eS b)] = some (.val (eS (meetS a b)), [])) (hl : ∀ a b (k : Int), g [.val (eS a), .val (eS b), .val (.int k)] = some (.val (ePr (lessS a b k)), [])) (hw : ∀ a b, h [.val (eS a), .val (eS b)] = some (.val (eS (withoutS a b)), [])) (w : Wd4) (a b : SS) :
    k_guarded_stretches f g h [.val (.str w.s), .val (eS a), .val (eS b)] = some (.val (ePr (guardS w a b)), []) := by
  cases w
  · have e := ePr_norm (lessS a b 1).1 (lessS a b 1).2
    rw [show guardS .lt a b = normS ((lessS a b 1).1, (lessS a b 1).2) from rfl, e]
    cases q : (lessS a b 1).1.isNone || (lessS a b 1).2.isNone <;>
      simp! only [k_guarded_stretches, k_guarded_stretches_b, Wd4.s, q_w1, q_w9, q_w13, hl, ePr, q_notin2, q]
  · have e := ePr_norm (lessS a b 0).1 (lessS a b 0).2
    rw [show guardS .le a b = normS ((lessS a b 0).1, (lessS a b 0).2) from rfl, e]
    cases q : (lessS a b 0).1.isNone || (lessS a b 0).2.isNone <;>
      simp! only [k_guarded_stretches, k_guarded_stretches_b, Wd4.s, q_w2, q_w10, q_w14, hl, ePr, q_notin2, q]
  · simp! only [k_guarded_stretches, k_guarded_stretches_b, Wd4.s, q_w11, hm, q_mulT2, guardS, ePr]
  · have e := ePr_norm (withoutS a b) (withoutS b a)
    rw [show guardS .ne a b = normS (withoutS a b, withoutS b a) from rfl, e]
    cases q : (withoutS a b).isNone || (withoutS b a).isNone <;>
      simp! only [k_guarded_stretches, k_guarded_stretches_b, Wd4.s, q_w12, q_w16, hw, ePr, q_notin2, q]
theorem k_check_guard_ok (w : Wd4) : k_check_guard [.val (.str w.s)] = some (.val .none, []) := by
  cases w <;> simp! only [k_check_guard, k_check_guard_b, Wd4.s, q_g1, q_g2, q_g3, q_g4]
theorem k_stretch_guarded_ok (h1 : ∀ w a b, f [.val (.str (Wd4.s w)), .val (eS a), .val (eS b)] = some (.val (ePr (guardS w a b)), [])) (h2 : ∀ a b, okS a = true → okS b = true → g [.val (eS a), .val (eS b)] = some (.val .none, [])) (h3 : ∀ w, h [.val (.str (Wd4.s w))] = some (.val .none, [])) (w : Wd4) {a b : SS} (ha : okS a = true) (hb : okS b = true) :
    k_stretch_guarded f g h [.val (.str w.s), .val (eS a), .val (eS b)] = some (.val (ePr (guardS w a b)), []) := by
  simp! only [k_stretch_guarded, k_stretch_guarded_b, h1, h2 a b ha hb, h3]
/-! ### the law's own -/
def letsB (w : Wd4) (x y : Int) : Bool := match w with
  | .lt => decide (x < y)
  | .le => decide (x ≤ y)
  | .eq => decide (x = y)
  | .ne => !decide (x = y)
theorem k_lets_ok (w : Wd4) (x y : Int) : k__law_lets [.val (.str w.s), .val (.int x), .val (.int y)] = some (.val (.bool (letsB w x y)), []) := by
  cases w <;> simp! only [k__law_lets, k__law_lets_b, Wd4.s, q_w1, q_w2, q_w3, q_w4, q_w6, q_w7, q_w8, q_w11, q_w12, letsB]
theorem k_lwithout_ok (l r o o2 : EE) : k__law_without [.val (eS (some (l, r))), .val (eS (some (o, o2)))] = some (.val (eS (withoutS (some (l, r)) (some (o, o2)))), []) := by
  rcases o with _ | o
  · simp! only [k__law_without, k__law_without_b, eS_n, eS_s, withoutS, eE, true_or]
  rcases o2 with _ | o2
  · rcases l with _ | l <;> rcases r with _ | r <;> simp [↓x_var, ↓x_C, ↓x_op, ↓x_fz, ↓x_rV, ↓x_B, ↓x_chain, ↓x_tru, ↓x_notT, ↓x_andT, ↓x_orT, ↓x_and, ↓x_or, ↓x_not, ↓x_neg, ↓x_if, ↓x_aNil, ↓x_aVal, ↓x_aSlot, ↓x_aTmp, ↓x_aR, ↓x_call, ↓x_callK, ↓x_dNil, ↓x_dCons, ↓x_tup, ↓x_lst, ↓x_itemN, ↓x_ownItem, ↓x_lenN, ↓x_blt, ↓x_isi, ↓x_list, ↓x_rgL1, ↓x_rgL2, ↓x_iSeq, ↓x_iZip, ↓x_range1, ↓x_range2, ↓x_addR, ↓x_slice, ↓x_partN, ↓x_partS, ↓x_comp, ↓x_skip, ↓x_stuck, ↓x_break, ↓x_cont, ↓x_seq, ↓x_sIf, ↓x_sExpr, ↓x_ret, ↓x_retN, ↓x_move, ↓x_setRv, ↓x_setRf, ↓x_set, ↓x_gN, ↓x_gsNil, ↓x_gsCons, ↓x_gTup, ↓x_gIx, ↓x_setAt, ↓x_asg, ↓x_par, ↓x_sm0, ↓x_smV, ↓x_smF, ↓x_app, ↓x_for, ↓x_for0, ↓x_for1, ↓x_comp0, ↓x_comp1, ↓x_fn, ↓x_iEnum, ↓x_range3, ↓x_comp2, ↓x_compN0, ↓x_compN1, q_addI, q_addT, q_addL, q_subI, q_ltI, q_leI, q_gtI, q_geI, q_isN, q_isNotN, q_eqI, q_neI, q_eqB, q_eqT0, q_eqT1, q_neT0, q_neT1, q_eqL0, q_eqL1, q_neL0, q_neL1, q_int, q_abs, q_min2, q_max2, q_at0, q_at1, q_at2, q_at3, q_ix0, q_ix1, q_ix2, q_sz, q_iteS, q_iteT, q_iteR, q_iteV, q_iteBB, q_iteII, q_iteAnd, q_iteOr, q_iteNot, q_iteCon, q_pa0, q_pa1, q_pa2, q_pa3, q_ow0, q_ow1, q_ow2, q_ow3, q_c0, q_c1, q_c2, q_c3, q_c4, q_c5, q_c6, q_c7, q_c8, q_c9, q_c10, q_c11, q_c12, q_all0, q_all1, q_all2, q_all3, q_inN2, q_inN0, q_02a, q_02b, List.getElem?_cons_zero, List.getElem?_cons_succ, List.set_cons_zero, List.set_cons_succ, wipeE, initE, outsOf, toAv, slotsOf, putOuts, natNodup, List.map_cons, List.map_nil, List.cons_append, List.nil_append, List.append_nil, List.replicate, List.length_cons, List.length_nil, isNone, isiD, seqD, gItem, truD, zipOf, zipD, pick, List.contains_nil, List.contains_cons, eq_self, if_true, if_false, Bool.false_eq_true, Bool.true_eq_false, Bool.not_true, Bool.not_false, reduceIte, decide_true, decide_false, Nat.reduceAdd, Nat.reduceSub, Nat.zero_add, Nat.add_zero, and_self, true_and, and_true, Bool.and_true, Bool.true_and, Bool.or_false, Bool.false_or, Bool.or_true, Bool.true_or, Bool.and_false, Bool.false_and, Bool.or_self, Bool.and_self, Nat.sub_self, Option.map_some, Option.map_none, Nat.reduceBEq, Bool.not_eq_true, beq_self_eq_true, Nat.reduceLeDiff, Nat.reduceLT, Nat.reduceEqDiff, List.filterMap_cons, List.filterMap_nil, k__law_without, k__law_without_b, eS, withoutS, eE, q_en1, q_en2, q_en3, q_nn1, q_nn2, q_nn3]
  by_cases c1 : o = o2
  · subst c1
    rcases l with _ | l <;> rcases r with _ | r
    · have kk := q_eqS (some (none, none)) (some (some o, some o))
      simp only [eS_s, eE] at kk
      simp [↓x_var, ↓x_C, ↓x_op, ↓x_fz, ↓x_rV, ↓x_B, ↓x_chain, ↓x_tru, ↓x_notT, ↓x_andT, ↓x_orT, ↓x_and, ↓x_or, ↓x_not, ↓x_neg, ↓x_if, ↓x_aNil, ↓x_aVal, ↓x_aSlot, ↓x_aTmp, ↓x_aR, ↓x_call, ↓x_callK, ↓x_dNil, ↓x_dCons, ↓x_tup, ↓x_lst, ↓x_itemN, ↓x_ownItem, ↓x_lenN, ↓x_blt, ↓x_isi, ↓x_list, ↓x_rgL1, ↓x_rgL2, ↓x_iSeq, ↓x_iZip, ↓x_range1, ↓x_range2, ↓x_addR, ↓x_slice, ↓x_partN, ↓x_partS, ↓x_comp, ↓x_skip, ↓x_stuck, ↓x_break, ↓x_cont, ↓x_seq, ↓x_sIf, ↓x_sExpr, ↓x_ret, ↓x_retN, ↓x_move, ↓x_setRv, ↓x_setRf, ↓x_set, ↓x_gN, ↓x_gsNil, ↓x_gsCons, ↓x_gTup, ↓x_gIx, ↓x_setAt, ↓x_asg, ↓x_par, ↓x_sm0, ↓x_smV, ↓x_smF, ↓x_app, ↓x_for, ↓x_for0, ↓x_for1, ↓x_comp0, ↓x_comp1, ↓x_fn, ↓x_iEnum, ↓x_range3, ↓x_comp2, ↓x_compN0, ↓x_compN1, q_addI, q_addT, q_addL, q_subI, q_ltI, q_leI, q_gtI, q_geI, q_isN, q_isNotN, q_eqI, q_neI, q_eqB, q_eqT0, q_eqT1, q_neT0, q_neT1, q_eqL0, q_eqL1, q_neL0, q_neL1, q_int, q_abs, q_min2, q_max2, q_at0, q_at1, q_at2, q_at3, q_ix0, q_ix1, q_ix2, q_sz, q_iteS, q_iteT, q_iteR, q_iteV, q_iteBB, q_iteII, q_iteAnd, q_iteOr, q_iteNot, q_iteCon, q_pa0, q_pa1, q_pa2, q_pa3, q_ow0, q_ow1, q_ow2, q_ow3, q_c0, q_c1, q_c2, q_c3, q_c4, q_c5, q_c6, q_c7, q_c8, q_c9, q_c10, q_c11, q_c12, q_all0, q_all1, q_all2, q_all3, q_inN2, q_inN0, q_02a, q_02b, List.getElem?_cons_zero, List.getElem?_cons_succ, List.set_cons_zero, List.set_cons_succ, wipeE, initE, outsOf, toAv, slotsOf, putOuts, natNodup, List.map_cons, List.map_nil, List.cons_append, List.nil_append, List.append_nil, List.replicate, List.length_cons, List.length_nil, isNone, isiD, seqD, gItem, truD, zipOf, zipD, pick, List.contains_nil, List.contains_cons, eq_self, if_true, if_false, Bool.false_eq_true, Bool.true_eq_false, Bool.not_true, Bool.not_false, reduceIte, decide_true, decide_false, Nat.reduceAdd, Nat.reduceSub, Nat.zero_add, Nat.add_zero, and_self, true_and, and_true, Bool.and_true, Bool.true_and, Bool.or_false, Bool.false_or, Bool.or_true, Bool.true_or, Bool.and_false, Bool.false_and, Bool.or_self, Bool.and_self, Nat.sub_self, Option.map_some, Option.map_none, Nat.reduceBEq, Bool.not_eq_true, beq_self_eq_true, Nat.reduceLeDiff, Nat.reduceLT, Nat.reduceEqDiff, List.filterMap_cons, List.filterMap_nil, k__law_without, k__law_without_b, eS, withoutS, eE, q_en1, q_en2, q_en3, q_nn1, q_nn2, q_nn3, addE, kk]
    · have kk := q_eqS (some (none, some r)) (some (some o, some o))
      simp only [eS_s, eE] at kk
      by_cases c4 : r = o
      · subst c4
        simp [↓x_var, ↓x_C, ↓x_op, ↓x_fz, ↓x_rV, ↓x_B, ↓x_chain, ↓x_tru, ↓x_notT, ↓x_andT, ↓x_orT, ↓x_and, ↓x_or, ↓x_not, ↓x_neg, ↓x_if, ↓x_aNil, ↓x_aVal, ↓x_aSlot, ↓x_aTmp, ↓x_aR, ↓x_call, ↓x_callK, ↓x_dNil, ↓x_dCons, ↓x_tup, ↓x_lst, ↓x_itemN, ↓x_ownItem, ↓x_lenN, ↓x_blt, ↓x_isi, ↓x_list, ↓x_rgL1, ↓x_rgL2, ↓x_iSeq, ↓x_iZip, ↓x_range1, ↓x_range2, ↓x_addR, ↓x_slice, ↓x_partN, ↓x_partS, ↓x_comp, ↓x_skip, ↓x_stuck, ↓x_break, ↓x_cont, ↓x_seq, ↓x_sIf, ↓x_sExpr, ↓x_ret, ↓x_retN, ↓x_move, ↓x_setRv, ↓x_setRf, ↓x_set, ↓x_gN, ↓x_gsNil, ↓x_gsCons, ↓x_gTup, ↓x_gIx, ↓x_setAt, ↓x_asg, ↓x_par, ↓x_sm0, ↓x_smV, ↓x_smF, ↓x_app, ↓x_for, ↓x_for0, ↓x_for1, ↓x_comp0, ↓x_comp1, ↓x_fn, ↓x_iEnum, ↓x_range3, ↓x_comp2, ↓x_compN0, ↓x_compN1, q_addI, q_addT, q_addL, q_subI, q_ltI, q_leI, q_gtI, q_geI, q_isN, q_isNotN, q_eqI, q_neI, q_eqB, q_eqT0, q_eqT1, q_neT0, q_neT1, q_eqL0, q_eqL1, q_neL0, q_neL1, q_int, q_abs, q_min2, q_max2, q_at0, q_at1, q_at2, q_at3, q_ix0, q_ix1, q_ix2, q_sz, q_iteS, q_iteT, q_iteR, q_iteV, q_iteBB, q_iteII, q_iteAnd, q_iteOr, q_iteNot, q_iteCon, q_pa0, q_pa1, q_pa2, q_pa3, q_ow0, q_ow1, q_ow2, q_ow3, q_c0, q_c1, q_c2, q_c3, q_c4, q_c5, q_c6, q_c7, q_c8, q_c9, q_c10, q_c11, q_c12, q_all0, q_all1, q_all2, q_all3, q_inN2, q_inN0, q_02a, q_02b, List.getElem?_cons_zero, List.getElem?_cons_succ, List.set_cons_zero, List.set_cons_succ, wipeE, initE, outsOf, toAv, slotsOf, putOuts, natNodup, List.map_cons, List.map_nil, List.cons_append, List.nil_append, List.append_nil, List.replicate, List.length_cons, List.length_nil, isNone, isiD, seqD, gItem, truD, zipOf, zipD, pick, List.contains_nil, List.contains_cons, eq_self, if_true, if_false, Bool.false_eq_true, Bool.true_eq_false, Bool.not_true, Bool.not_false, reduceIte, decide_true, decide_false, Nat.reduceAdd, Nat.reduceSub, Nat.zero_add, Nat.add_zero, and_self, true_and, and_true, Bool.and_true, Bool.true_and, Bool.or_false, Bool.false_or, Bool.or_true, Bool.true_or, Bool.and_false, Bool.false_and, Bool.or_self, Bool.and_self, Nat.sub_self, Option.map_some, Option.map_none, Nat.reduceBEq, Bool.not_eq_true, beq_self_eq_true, Nat.reduceLeDiff, Nat.reduceLT, Nat.reduceEqDiff, List.filterMap_cons, List.filterMap_nil, k__law_without, k__law_without_b, eS, withoutS, eE, q_en1, q_en2, q_en3, q_nn1, q_nn2, q_nn3, addE, kk] <;> rfl
      · simp [↓x_var, ↓x_C, ↓x_op, ↓x_fz, ↓x_rV, ↓x_B, ↓x_chain, ↓x_tru, ↓x_notT, ↓x_andT, ↓x_orT, ↓x_and, ↓x_or, ↓x_not, ↓x_neg, ↓x_if, ↓x_aNil, ↓x_aVal, ↓x_aSlot, ↓x_aTmp, ↓x_aR, ↓x_call, ↓x_callK, ↓x_dNil, ↓x_dCons, ↓x_tup, ↓x_lst, ↓x_itemN, ↓x_ownItem, ↓x_lenN, ↓x_blt, ↓x_isi, ↓x_list, ↓x_rgL1, ↓x_rgL2, ↓x_iSeq, ↓x_iZip, ↓x_range1, ↓x_range2, ↓x_addR, ↓x_slice, ↓x_partN, ↓x_partS, ↓x_comp, ↓x_skip, ↓x_stuck, ↓x_break, ↓x_cont, ↓x_seq, ↓x_sIf, ↓x_sExpr, ↓x_ret, ↓x_retN, ↓x_move, ↓x_setRv, ↓x_setRf, ↓x_set, ↓x_gN, ↓x_gsNil, ↓x_gsCons, ↓x_gTup, ↓x_gIx, ↓x_setAt, ↓x_asg, ↓x_par, ↓x_sm0, ↓x_smV, ↓x_smF, ↓x_app, ↓x_for, ↓x_for0, ↓x_for1, ↓x_comp0, ↓x_comp1, ↓x_fn, ↓x_iEnum, ↓x_range3, ↓x_comp2, ↓x_compN0, ↓x_compN1, q_addI, q_addT, q_addL, q_subI, q_ltI, q_leI, q_gtI, q_geI, q_isN, q_isNotN, q_eqI, q_neI, q_eqB, q_eqT0, q_eqT1, q_neT0, q_neT1, q_eqL0, q_eqL1, q_neL0, q_neL1, q_int, q_abs, q_min2, q_max2, q_at0, q_at1, q_at2, q_at3, q_ix0, q_ix1, q_ix2, q_sz, q_iteS, q_iteT, q_iteR, q_iteV, q_iteBB, q_iteII, q_iteAnd, q_iteOr, q_iteNot, q_iteCon, q_pa0, q_pa1, q_pa2, q_pa3, q_ow0, q_ow1, q_ow2, q_ow3, q_c0, q_c1, q_c2, q_c3, q_c4, q_c5, q_c6, q_c7, q_c8, q_c9, q_c10, q_c11, q_c12, q_all0, q_all1, q_all2, q_all3, q_inN2, q_inN0, q_02a, q_02b, List.getElem?_cons_zero, List.getElem?_cons_succ, List.set_cons_zero, List.set_cons_succ, wipeE, initE, outsOf, toAv, slotsOf, putOuts, natNodup, List.map_cons, List.map_nil, List.cons_append, List.nil_append, List.append_nil, List.replicate, List.length_cons, List.length_nil, isNone, isiD, seqD, gItem, truD, zipOf, zipD, pick, List.contains_nil, List.contains_cons, eq_self, if_true, if_false, Bool.false_eq_true, Bool.true_eq_false, Bool.not_true, Bool.not_false, reduceIte, decide_true, decide_false, Nat.reduceAdd, Nat.reduceSub, Nat.zero_add, Nat.add_zero, and_self, true_and, and_true, Bool.and_true, Bool.true_and, Bool.or_false, Bool.false_or, Bool.or_true, Bool.true_or, Bool.and_false, Bool.false_and, Bool.or_self, Bool.and_self, Nat.sub_self, Option.map_some, Option.map_none, Nat.reduceBEq, Bool.not_eq_true, beq_self_eq_true, Nat.reduceLeDiff, Nat.reduceLT, Nat.reduceEqDiff, List.filterMap_cons, List.filterMap_nil, k__law_without, k__law_without_b, eS, withoutS, eE, q_en1, q_en2, q_en3, q_nn1, q_nn2, q_nn3, addE, kk, c4]
    · have kk := q_eqS (some (some l, none)) (some (some o, some o))
      simp only [eS_s, eE] at kk
      by_cases c4 : l = o
      · subst c4
        simp [↓x_var, ↓x_C, ↓x_op, ↓x_fz, ↓x_rV, ↓x_B, ↓x_chain, ↓x_tru, ↓x_notT, ↓x_andT, ↓x_orT, ↓x_and, ↓x_or, ↓x_not, ↓x_neg, ↓x_if, ↓x_aNil, ↓x_aVal, ↓x_aSlot, ↓x_aTmp, ↓x_aR, ↓x_call, ↓x_callK, ↓x_dNil, ↓x_dCons, ↓x_tup, ↓x_lst, ↓x_itemN, ↓x_ownItem, ↓x_lenN, ↓x_blt, ↓x_isi, ↓x_list, ↓x_rgL1, ↓x_rgL2, ↓x_iSeq, ↓x_iZip, ↓x_range1, ↓x_range2, ↓x_addR, ↓x_slice, ↓x_partN, ↓x_partS, ↓x_comp, ↓x_skip, ↓x_stuck, ↓x_break, ↓x_cont, ↓x_seq, ↓x_sIf, ↓x_sExpr, ↓x_ret, ↓x_retN, ↓x_move, ↓x_setRv, ↓x_setRf, ↓x_set, ↓x_gN, ↓x_gsNil, ↓x_gsCons, ↓x_gTup, ↓x_gIx, ↓x_setAt, ↓x_asg, ↓x_par, ↓x_sm0, ↓x_smV, ↓x_smF, ↓x_app, ↓x_for, ↓x_for0, ↓x_for1, ↓x_comp0, ↓x_comp1, ↓x_fn, ↓x_iEnum, ↓x_range3, ↓x_comp2, ↓x_compN0, ↓x_compN1, q_addI, q_addT, q_addL, q_subI, q_ltI, q_leI, q_gtI, q_geI, q_isN, q_isNotN, q_eqI, q_neI, q_eqB, q_eqT0, q_eqT1, q_neT0, q_neT1, q_eqL0, q_eqL1, q_neL0, q_neL1, q_int, q_abs, q_min2, q_max2, q_at0, q_at1, q_at2, q_at3, q_ix0, q_ix1, q_ix2, q_sz, q_iteS, q_iteT, q_iteR, q_iteV, q_iteBB, q_iteII, q_iteAnd, q_iteOr, q_iteNot, q_iteCon, q_pa0, q_pa1, q_pa2, q_pa3, q_ow0, q_ow1, q_ow2, q_ow3, q_c0, q_c1, q_c2, q_c3, q_c4, q_c5, q_c6, q_c7, q_c8, q_c9, q_c10, q_c11, q_c12, q_all0, q_all1, q_all2, q_all3, q_inN2, q_inN0, q_02a, q_02b, List.getElem?_cons_zero, List.getElem?_cons_succ, List.set_cons_zero, List.set_cons_succ, wipeE, initE, outsOf, toAv, slotsOf, putOuts, natNodup, List.map_cons, List.map_nil, List.cons_append, List.nil_append, List.append_nil, List.replicate, List.length_cons, List.length_nil, isNone, isiD, seqD, gItem, truD, zipOf, zipD, pick, List.contains_nil, List.contains_cons, eq_self, if_true, if_false, Bool.false_eq_true, Bool.true_eq_false, Bool.not_true, Bool.not_false, reduceIte, decide_true, decide_false, Nat.reduceAdd, Nat.reduceSub, Nat.zero_add, Nat.add_zero, and_self, true_and, and_true, Bool.and_true, Bool.true_and, Bool.or_false, Bool.false_or, Bool.or_true, Bool.true_or, Bool.and_false, Bool.false_and, Bool.or_self, Bool.and_self, Nat.sub_self, Option.map_some, Option.map_none, Nat.reduceBEq, Bool.not_eq_true, beq_self_eq_true, Nat.reduceLeDiff, Nat.reduceLT, Nat.reduceEqDiff, List.filterMap_cons, List.filterMap_nil, k__law_without, k__law_without_b, eS, withoutS, eE, q_en1, q_en2, q_en3, q_nn1, q_nn2, q_nn3, addE, kk] <;> rfl
      · simp [↓x_var, ↓x_C, ↓x_op, ↓x_fz, ↓x_rV, ↓x_B, ↓x_chain, ↓x_tru, ↓x_notT, ↓x_andT, ↓x_orT, ↓x_and, ↓x_or, ↓x_not, ↓x_neg, ↓x_if, ↓x_aNil, ↓x_aVal, ↓x_aSlot, ↓x_aTmp, ↓x_aR, ↓x_call, ↓x_callK, ↓x_dNil, ↓x_dCons, ↓x_tup, ↓x_lst, ↓x_itemN, ↓x_ownItem, ↓x_lenN, ↓x_blt, ↓x_isi, ↓x_list, ↓x_rgL1, ↓x_rgL2, ↓x_iSeq, ↓x_iZip, ↓x_range1, ↓x_range2, ↓x_addR, ↓x_slice, ↓x_partN, ↓x_partS, ↓x_comp, ↓x_skip, ↓x_stuck, ↓x_break, ↓x_cont, ↓x_seq, ↓x_sIf, ↓x_sExpr, ↓x_ret, ↓x_retN, ↓x_move, ↓x_setRv, ↓x_setRf, ↓x_set, ↓x_gN, ↓x_gsNil, ↓x_gsCons, ↓x_gTup, ↓x_gIx, ↓x_setAt, ↓x_asg, ↓x_par, ↓x_sm0, ↓x_smV, ↓x_smF, ↓x_app, ↓x_for, ↓x_for0, ↓x_for1, ↓x_comp0, ↓x_comp1, ↓x_fn, ↓x_iEnum, ↓x_range3, ↓x_comp2, ↓x_compN0, ↓x_compN1, q_addI, q_addT, q_addL, q_subI, q_ltI, q_leI, q_gtI, q_geI, q_isN, q_isNotN, q_eqI, q_neI, q_eqB, q_eqT0, q_eqT1, q_neT0, q_neT1, q_eqL0, q_eqL1, q_neL0, q_neL1, q_int, q_abs, q_min2, q_max2, q_at0, q_at1, q_at2, q_at3, q_ix0, q_ix1, q_ix2, q_sz, q_iteS, q_iteT, q_iteR, q_iteV, q_iteBB, q_iteII, q_iteAnd, q_iteOr, q_iteNot, q_iteCon, q_pa0, q_pa1, q_pa2, q_pa3, q_ow0, q_ow1, q_ow2, q_ow3, q_c0, q_c1, q_c2, q_c3, q_c4, q_c5, q_c6, q_c7, q_c8, q_c9, q_c10, q_c11, q_c12, q_all0, q_all1, q_all2, q_all3, q_inN2, q_inN0, q_02a, q_02b, List.getElem?_cons_zero, List.getElem?_cons_succ, List.set_cons_zero, List.set_cons_succ, wipeE, initE, outsOf, toAv, slotsOf, putOuts, natNodup, List.map_cons, List.map_nil, List.cons_append, List.nil_append, List.append_nil, List.replicate, List.length_cons, List.length_nil, isNone, isiD, seqD, gItem, truD, zipOf, zipD, pick, List.contains_nil, List.contains_cons, eq_self, if_true, if_false, Bool.false_eq_true, Bool.true_eq_false, Bool.not_true, Bool.not_false, reduceIte, decide_true, decide_false, Nat.reduceAdd, Nat.reduceSub, Nat.zero_add, Nat.add_zero, and_self, true_and, and_true, Bool.and_true, Bool.true_and, Bool.or_false, Bool.false_or, Bool.or_true, Bool.true_or, Bool.and_false, Bool.false_and, Bool.or_self, Bool.and_self, Nat.sub_self, Option.map_some, Option.map_none, Nat.reduceBEq, Bool.not_eq_true, beq_self_eq_true, Nat.reduceLeDiff, Nat.reduceLT, Nat.reduceEqDiff, List.filterMap_cons, List.filterMap_nil, k__law_without, k__law_without_b, eS, withoutS, eE, q_en1, q_en2, q_en3, q_nn1, q_nn2, q_nn3, addE, kk, c4]
    · have kk := q_eqS (some (some l, some r)) (some (some o, some o))
      simp only [eS_s, eE] at kk
      by_cases c3 : l = o
      · subst c3
        by_cases c4 : r = l
        · subst c4
          simp [↓x_var, ↓x_C, ↓x_op, ↓x_fz, ↓x_rV, ↓x_B, ↓x_chain, ↓x_tru, ↓x_notT, ↓x_andT, ↓x_orT, ↓x_and, ↓x_or, ↓x_not, ↓x_neg, ↓x_if, ↓x_aNil, ↓x_aVal, ↓x_aSlot, ↓x_aTmp, ↓x_aR, ↓x_call, ↓x_callK, ↓x_dNil, ↓x_dCons, ↓x_tup, ↓x_lst, ↓x_itemN, ↓x_ownItem, ↓x_lenN, ↓x_blt, ↓x_isi, ↓x_list, ↓x_rgL1, ↓x_rgL2, ↓x_iSeq, ↓x_iZip, ↓x_range1, ↓x_range2, ↓x_addR, ↓x_slice, ↓x_partN, ↓x_partS, ↓x_comp, ↓x_skip, ↓x_stuck, ↓x_break, ↓x_cont, ↓x_seq, ↓x_sIf, ↓x_sExpr, ↓x_ret, ↓x_retN, ↓x_move, ↓x_setRv, ↓x_setRf, ↓x_set, ↓x_gN, ↓x_gsNil, ↓x_gsCons, ↓x_gTup, ↓x_gIx, ↓x_setAt, ↓x_asg, ↓x_par, ↓x_sm0, ↓x_smV, ↓x_smF, ↓x_app, ↓x_for, ↓x_for0, ↓x_for1, ↓x_comp0, ↓x_comp1, ↓x_fn, ↓x_iEnum, ↓x_range3, ↓x_comp2, ↓x_compN0, ↓x_compN1, q_addI, q_addT, q_addL, q_subI, q_ltI, q_leI, q_gtI, q_geI, q_isN, q_isNotN, q_eqI, q_neI, q_eqB, q_eqT0, q_eqT1, q_neT0, q_neT1, q_eqL0, q_eqL1, q_neL0, q_neL1, q_int, q_abs, q_min2, q_max2, q_at0, q_at1, q_at2, q_at3, q_ix0, q_ix1, q_ix2, q_sz, q_iteS, q_iteT, q_iteR, q_iteV, q_iteBB, q_iteII, q_iteAnd, q_iteOr, q_iteNot, q_iteCon, q_pa0, q_pa1, q_pa2, q_pa3, q_ow0, q_ow1, q_ow2, q_ow3, q_c0, q_c1, q_c2, q_c3, q_c4, q_c5, q_c6, q_c7, q_c8, q_c9, q_c10, q_c11, q_c12, q_all0, q_all1, q_all2, q_all3, q_inN2, q_inN0, q_02a, q_02b, List.getElem?_cons_zero, List.getElem?_cons_succ, List.set_cons_zero, List.set_cons_succ, wipeE, initE, outsOf, toAv, slotsOf, putOuts, natNodup, List.map_cons, List.map_nil, List.cons_append, List.nil_append, List.append_nil, List.replicate, List.length_cons, List.length_nil, isNone, isiD, seqD, gItem, truD, zipOf, zipD, pick, List.contains_nil, List.contains_cons, eq_self, if_true, if_false, Bool.false_eq_true, Bool.true_eq_false, Bool.not_true, Bool.not_false, reduceIte, decide_true, decide_false, Nat.reduceAdd, Nat.reduceSub, Nat.zero_add, Nat.add_zero, and_self, true_and, and_true, Bool.and_true, Bool.true_and, Bool.or_false, Bool.false_or, Bool.or_true, Bool.true_or, Bool.and_false, Bool.false_and, Bool.or_self, Bool.and_self, Nat.sub_self, Option.map_some, Option.map_none, Nat.reduceBEq, Bool.not_eq_true, beq_self_eq_true, Nat.reduceLeDiff, Nat.reduceLT, Nat.reduceEqDiff, List.filterMap_cons, List.filterMap_nil, k__law_without, k__law_without_b, eS, withoutS, eE, q_en1, q_en2, q_en3, q_nn1, q_nn2, q_nn3, addE, kk]
        · have c5 : ¬ l = r := fun z => c4 z.symm
          simp [↓x_var, ↓x_C, ↓x_op, ↓x_fz, ↓x_rV, ↓x_B, ↓x_chain, ↓x_tru, ↓x_notT, ↓x_andT, ↓x_orT, ↓x_and, ↓x_or, ↓x_not, ↓x_neg, ↓x_if, ↓x_aNil, ↓x_aVal, ↓x_aSlot, ↓x_aTmp, ↓x_aR, ↓x_call, ↓x_callK, ↓x_dNil, ↓x_dCons, ↓x_tup, ↓x_lst, ↓x_itemN, ↓x_ownItem, ↓x_lenN, ↓x_blt, ↓x_isi, ↓x_list, ↓x_rgL1, ↓x_rgL2, ↓x_iSeq, ↓x_iZip, ↓x_range1, ↓x_range2, ↓x_addR, ↓x_slice, ↓x_partN, ↓x_partS, ↓x_comp, ↓x_skip, ↓x_stuck, ↓x_break, ↓x_cont, ↓x_seq, ↓x_sIf, ↓x_sExpr, ↓x_ret, ↓x_retN, ↓x_move, ↓x_setRv, ↓x_setRf, ↓x_set, ↓x_gN, ↓x_gsNil, ↓x_gsCons, ↓x_gTup, ↓x_gIx, ↓x_setAt, ↓x_asg, ↓x_par, ↓x_sm0, ↓x_smV, ↓x_smF, ↓x_app, ↓x_for, ↓x_for0, ↓x_for1, ↓x_comp0, ↓x_comp1, ↓x_fn, ↓x_iEnum, ↓x_range3, ↓x_comp2, ↓x_compN0, ↓x_compN1, q_addI, q_addT, q_addL, q_subI, q_ltI, q_leI, q_gtI, q_geI, q_isN, q_isNotN, q_eqI, q_neI, q_eqB, q_eqT0, q_eqT1, q_neT0, q_neT1, q_eqL0, q_eqL1, q_neL0, q_neL1, q_int, q_abs, q_min2, q_max2, q_at0, q_at1, q_at2, q_at3, q_ix0, q_ix1, q_ix2, q_sz, q_iteS, q_iteT, q_iteR, q_iteV, q_iteBB, q_iteII, q_iteAnd, q_iteOr, q_iteNot, q_iteCon, q_pa0, q_pa1, q_pa2, q_pa3, q_ow0, q_ow1, q_ow2, q_ow3, q_c0, q_c1, q_c2, q_c3, q_c4, q_c5, q_c6, q_c7, q_c8, q_c9, q_c10, q_c11, q_c12, q_all0, q_all1, q_all2, q_all3, q_inN2, q_inN0, q_02a, q_02b, List.getElem?_cons_zero, List.getElem?_cons_succ, List.set_cons_zero, List.set_cons_succ, wipeE, initE, outsOf, toAv, slotsOf, putOuts, natNodup, List.map_cons, List.map_nil, List.cons_append, List.nil_append, List.append_nil, List.replicate, List.length_cons, List.length_nil, isNone, isiD, seqD, gItem, truD, zipOf, zipD, pick, List.contains_nil, List.contains_cons, eq_self, if_true, if_false, Bool.false_eq_true, Bool.true_eq_false, Bool.not_true, Bool.not_false, reduceIte, decide_true, decide_false, Nat.reduceAdd, Nat.reduceSub, Nat.zero_add, Nat.add_zero, and_self, true_and, and_true, Bool.and_true, Bool.true_and, Bool.or_false, Bool.false_or, Bool.or_true, Bool.true_or, Bool.and_false, Bool.false_and, Bool.or_self, Bool.and_self, Nat.sub_self, Option.map_some, Option.map_none, Nat.reduceBEq, Bool.not_eq_true, beq_self_eq_true, Nat.reduceLeDiff, Nat.reduceLT, Nat.reduceEqDiff, List.filterMap_cons, List.filterMap_nil, k__law_without, k__law_without_b, eS, withoutS, eE, q_en1, q_en2, q_en3, q_nn1, q_nn2, q_nn3, addE, kk, c4, c5]
      · by_cases c4 : r = o
        · subst c4
          simp [↓x_var, ↓x_C, ↓x_op, ↓x_fz, ↓x_rV, ↓x_B, ↓x_chain, ↓x_tru, ↓x_notT, ↓x_andT, ↓x_orT, ↓x_and, ↓x_or, ↓x_not, ↓x_neg, ↓x_if, ↓x_aNil, ↓x_aVal, ↓x_aSlot, ↓x_aTmp, ↓x_aR, ↓x_call, ↓x_callK, ↓x_dNil, ↓x_dCons, ↓x_tup, ↓x_lst, ↓x_itemN, ↓x_ownItem, ↓x_lenN, ↓x_blt, ↓x_isi, ↓x_list, ↓x_rgL1, ↓x_rgL2, ↓x_iSeq, ↓x_iZip, ↓x_range1, ↓x_range2, ↓x_addR, ↓x_slice, ↓x_partN, ↓x_partS, ↓x_comp, ↓x_skip, ↓x_stuck, ↓x_break, ↓x_cont, ↓x_seq, ↓x_sIf, ↓x_sExpr, ↓x_ret, ↓x_retN, ↓x_move, ↓x_setRv, ↓x_setRf, ↓x_set, ↓x_gN, ↓x_gsNil, ↓x_gsCons, ↓x_gTup, ↓x_gIx, ↓x_setAt, ↓x_asg, ↓x_par, ↓x_sm0, ↓x_smV, ↓x_smF, ↓x_app, ↓x_for, ↓x_for0, ↓x_for1, ↓x_comp0, ↓x_comp1, ↓x_fn, ↓x_iEnum, ↓x_range3, ↓x_comp2, ↓x_compN0, ↓x_compN1, q_addI, q_addT, q_addL, q_subI, q_ltI, q_leI, q_gtI, q_geI, q_isN, q_isNotN, q_eqI, q_neI, q_eqB, q_eqT0, q_eqT1, q_neT0, q_neT1, q_eqL0, q_eqL1, q_neL0, q_neL1, q_int, q_abs, q_min2, q_max2, q_at0, q_at1, q_at2, q_at3, q_ix0, q_ix1, q_ix2, q_sz, q_iteS, q_iteT, q_iteR, q_iteV, q_iteBB, q_iteII, q_iteAnd, q_iteOr, q_iteNot, q_iteCon, q_pa0, q_pa1, q_pa2, q_pa3, q_ow0, q_ow1, q_ow2, q_ow3, q_c0, q_c1, q_c2, q_c3, q_c4, q_c5, q_c6, q_c7, q_c8, q_c9, q_c10, q_c11, q_c12, q_all0, q_all1, q_all2, q_all3, q_inN2, q_inN0, q_02a, q_02b, List.getElem?_cons_zero, List.getElem?_cons_succ, List.set_cons_zero, List.set_cons_succ, wipeE, initE, outsOf, toAv, slotsOf, putOuts, natNodup, List.map_cons, List.map_nil, List.cons_append, List.nil_append, List.append_nil, List.replicate, List.length_cons, List.length_nil, isNone, isiD, seqD, gItem, truD, zipOf, zipD, pick, List.contains_nil, List.contains_cons, eq_self, if_true, if_false, Bool.false_eq_true, Bool.true_eq_false, Bool.not_true, Bool.not_false, reduceIte, decide_true, decide_false, Nat.reduceAdd, Nat.reduceSub, Nat.zero_add, Nat.add_zero, and_self, true_and, and_true, Bool.and_true, Bool.true_and, Bool.or_false, Bool.false_or, Bool.or_true, Bool.true_or, Bool.and_false, Bool.false_and, Bool.or_self, Bool.and_self, Nat.sub_self, Option.map_some, Option.map_none, Nat.reduceBEq, Bool.not_eq_true, beq_self_eq_true, Nat.reduceLeDiff, Nat.reduceLT, Nat.reduceEqDiff, List.filterMap_cons, List.filterMap_nil, k__law_without, k__law_without_b, eS, withoutS, eE, q_en1, q_en2, q_en3, q_nn1, q_nn2, q_nn3, addE, kk, c3] <;> rfl
        · by_cases c2 : l = r
          · subst c2
            simp [↓x_var, ↓x_C, ↓x_op, ↓x_fz, ↓x_rV, ↓x_B, ↓x_chain, ↓x_tru, ↓x_notT, ↓x_andT, ↓x_orT, ↓x_and, ↓x_or, ↓x_not, ↓x_neg, ↓x_if, ↓x_aNil, ↓x_aVal, ↓x_aSlot, ↓x_aTmp, ↓x_aR, ↓x_call, ↓x_callK, ↓x_dNil, ↓x_dCons, ↓x_tup, ↓x_lst, ↓x_itemN, ↓x_ownItem, ↓x_lenN, ↓x_blt, ↓x_isi, ↓x_list, ↓x_rgL1, ↓x_rgL2, ↓x_iSeq, ↓x_iZip, ↓x_range1, ↓x_range2, ↓x_addR, ↓x_slice, ↓x_partN, ↓x_partS, ↓x_comp, ↓x_skip, ↓x_stuck, ↓x_break, ↓x_cont, ↓x_seq, ↓x_sIf, ↓x_sExpr, ↓x_ret, ↓x_retN, ↓x_move, ↓x_setRv, ↓x_setRf, ↓x_set, ↓x_gN, ↓x_gsNil, ↓x_gsCons, ↓x_gTup, ↓x_gIx, ↓x_setAt, ↓x_asg, ↓x_par, ↓x_sm0, ↓x_smV, ↓x_smF, ↓x_app, ↓x_for, ↓x_for0, ↓x_for1, ↓x_comp0, ↓x_comp1, ↓x_fn, ↓x_iEnum, ↓x_range3, ↓x_comp2, ↓x_compN0, ↓x_compN1, q_addI, q_addT, q_addL, q_subI, q_ltI, q_leI, q_gtI, q_geI, q_isN, q_isNotN, q_eqI, q_neI, q_eqB, q_eqT0, q_eqT1, q_neT0, q_neT1, q_eqL0, q_eqL1, q_neL0, q_neL1, q_int, q_abs, q_min2, q_max2, q_at0, q_at1, q_at2, q_at3, q_ix0, q_ix1, q_ix2, q_sz, q_iteS, q_iteT, q_iteR, q_iteV, q_iteBB, q_iteII, q_iteAnd, q_iteOr, q_iteNot, q_iteCon, q_pa0, q_pa1, q_pa2, q_pa3, q_ow0, q_ow1, q_ow2, q_ow3, q_c0, q_c1, q_c2, q_c3, q_c4, q_c5, q_c6, q_c7, q_c8, q_c9, q_c10, q_c11, q_c12, q_all0, q_all1, q_all2, q_all3, q_inN2, q_inN0, q_02a, q_02b, List.getElem?_cons_zero, List.getElem?_cons_succ, List.set_cons_zero, List.set_cons_succ, wipeE, initE, outsOf, toAv, slotsOf, putOuts, natNodup, List.map_cons, List.map_nil, List.cons_append, List.nil_append, List.append_nil, List.replicate, List.length_cons, List.length_nil, isNone, isiD, seqD, gItem, truD, zipOf, zipD, pick, List.contains_nil, List.contains_cons, eq_self, if_true, if_false, Bool.false_eq_true, Bool.true_eq_false, Bool.not_true, Bool.not_false, reduceIte, decide_true, decide_false, Nat.reduceAdd, Nat.reduceSub, Nat.zero_add, Nat.add_zero, and_self, true_and, and_true, Bool.and_true, Bool.true_and, Bool.or_false, Bool.false_or, Bool.or_true, Bool.true_or, Bool.and_false, Bool.false_and, Bool.or_self, Bool.and_self, Nat.sub_self, Option.map_some, Option.map_none, Nat.reduceBEq, Bool.not_eq_true, beq_self_eq_true, Nat.reduceLeDiff, Nat.reduceLT, Nat.reduceEqDiff, List.filterMap_cons, List.filterMap_nil, k__law_without, k__law_without_b, eS, withoutS, eE, q_en1, q_en2, q_en3, q_nn1, q_nn2, q_nn3, addE, kk, c3, c4]
          · simp [↓x_var, ↓x_C, ↓x_op, ↓x_fz, ↓x_rV, ↓x_B, ↓x_chain, ↓x_tru, ↓x_notT, ↓x_andT, ↓x_orT, ↓x_and, ↓x_or, ↓x_not, ↓x_neg, ↓x_if, ↓x_aNil, ↓x_aVal, ↓x_aSlot, ↓x_aTmp, ↓x_aR, ↓x_call, ↓x_callK, ↓x_dNil, ↓x_dCons, ↓x_tup, ↓x_lst, ↓x_itemN, ↓x_ownItem, ↓x_lenN, ↓x_blt, ↓x_isi, ↓x_list, ↓x_rgL1, ↓x_rgL2, ↓x_iSeq, ↓x_iZip, ↓x_range1, ↓x_range2, ↓x_addR, ↓x_slice, ↓x_partN, ↓x_partS, ↓x_comp, ↓x_skip, ↓x_stuck, ↓x_break, ↓x_cont, ↓x_seq, ↓x_sIf, ↓x_sExpr, ↓x_ret, ↓x_retN, ↓x_move, ↓x_setRv, ↓x_setRf, ↓x_set, ↓x_gN, ↓x_gsNil, ↓x_gsCons, ↓x_gTup, ↓x_gIx, ↓x_setAt, ↓x_asg, ↓x_par, ↓x_sm0, ↓x_smV, ↓x_smF, ↓x_app, ↓x_for, ↓x_for0, ↓x_for1, ↓x_comp0, ↓x_comp1, ↓x_fn, ↓x_iEnum, ↓x_range3, ↓x_comp2, ↓x_compN0, ↓x_compN1, q_addI, q_addT, q_addL, q_subI, q_ltI, q_leI, q_gtI, q_geI, q_isN, q_isNotN, q_eqI, q_neI, q_eqB, q_eqT0, q_eqT1, q_neT0, q_neT1, q_eqL0, q_eqL1, q_neL0, q_neL1, q_int, q_abs, q_min2, q_max2, q_at0, q_at1, q_at2, q_at3, q_ix0, q_ix1, q_ix2, q_sz, q_iteS, q_iteT, q_iteR, q_iteV, q_iteBB, q_iteII, q_iteAnd, q_iteOr, q_iteNot, q_iteCon, q_pa0, q_pa1, q_pa2, q_pa3, q_ow0, q_ow1, q_ow2, q_ow3, q_c0, q_c1, q_c2, q_c3, q_c4, q_c5, q_c6, q_c7, q_c8, q_c9, q_c10, q_c11, q_c12, q_all0, q_all1, q_all2, q_all3, q_inN2, q_inN0, q_02a, q_02b, List.getElem?_cons_zero, List.getElem?_cons_succ, List.set_cons_zero, List.set_cons_succ, wipeE, initE, outsOf, toAv, slotsOf, putOuts, natNodup, List.map_cons, List.map_nil, List.cons_append, List.nil_append, List.append_nil, List.replicate, List.length_cons, List.length_nil, isNone, isiD, seqD, gItem, truD, zipOf, zipD, pick, List.contains_nil, List.contains_cons, eq_self, if_true, if_false, Bool.false_eq_true, Bool.true_eq_false, Bool.not_true, Bool.not_false, reduceIte, decide_true, decide_false, Nat.reduceAdd, Nat.reduceSub, Nat.zero_add, Nat.add_zero, and_self, true_and, and_true, Bool.and_true, Bool.true_and, Bool.or_false, Bool.false_or, Bool.or_true, Bool.true_or, Bool.and_false, Bool.false_and, Bool.or_self, Bool.and_self, Nat.sub_self, Option.map_some, Option.map_none, Nat.reduceBEq, Bool.not_eq_true, beq_self_eq_true, Nat.reduceLeDiff, Nat.reduceLT, Nat.reduceEqDiff, List.filterMap_cons, List.filterMap_nil, k__law_without, k__law_without_b, eS, withoutS, eE, q_en1, q_en2, q_en3, q_nn1, q_nn2, q_nn3, addE, kk, c2, c3, c4]
  · rcases l with _ | l <;> rcases r with _ | r <;> simp [↓x_var, ↓x_C, ↓x_op, ↓x_fz, ↓x_rV, ↓x_B, ↓x_chain, ↓x_tru, ↓x_notT, ↓x_andT, ↓x_orT, ↓x_and, ↓x_or, ↓x_not, ↓x_neg, ↓x_if, ↓x_aNil, ↓x_aVal, ↓x_aSlot, ↓x_aTmp, ↓x_aR, ↓x_call, ↓x_callK, ↓x_dNil, ↓x_dCons, ↓x_tup, ↓x_lst, ↓x_itemN, ↓x_ownItem, ↓x_lenN, ↓x_blt, ↓x_isi, ↓x_list, ↓x_rgL1, ↓x_rgL2, ↓x_iSeq, ↓x_iZip, ↓x_range1, ↓x_range2, ↓x_addR, ↓x_slice, ↓x_partN, ↓x_partS, ↓x_comp, ↓x_skip, ↓x_stuck, ↓x_break, ↓x_cont, ↓x_seq, ↓x_sIf, ↓x_sExpr, ↓x_ret, ↓x_retN, ↓x_move, ↓x_setRv, ↓x_setRf, ↓x_set, ↓x_gN, ↓x_gsNil, ↓x_gsCons, ↓x_gTup, ↓x_gIx, ↓x_setAt, ↓x_asg, ↓x_par, ↓x_sm0, ↓x_smV, ↓x_smF, ↓x_app, ↓x_for, ↓x_for0, ↓x_for1, ↓x_comp0, ↓x_comp1, ↓x_fn, ↓x_iEnum, ↓x_range3, ↓x_comp2, ↓x_compN0, ↓x_compN1, q_addI, q_addT, q_addL, q_subI, q_ltI, q_leI, q_gtI, q_geI, q_isN, q_isNotN, q_eqI, q_neI, q_eqB, q_eqT0, q_eqT1, q_neT0, q_neT1, q_eqL0, q_eqL1, q_neL0, q_neL1, q_int, q_abs, q_min2, q_max2, q_at0, q_at1, q_at2, q_at3, q_ix0, q_ix1, q_ix2, q_sz, q_iteS, q_iteT, q_iteR, q_iteV, q_iteBB, q_iteII, q_iteAnd, q_iteOr, q_iteNot, q_iteCon, q_pa0, q_pa1, q_pa2, q_pa3, q_ow0, q_ow1, q_ow2, q_ow3, q_c0, q_c1, q_c2, q_c3, q_c4, q_c5, q_c6, q_c7, q_c8, q_c9, q_c10, q_c11, q_c12, q_all0, q_all1, q_all2, q_all3, q_inN2, q_inN0, q_02a, q_02b, List.getElem?_cons_zero, List.getElem?_cons_succ, List.set_cons_zero, List.set_cons_succ, wipeE, initE, outsOf, toAv, slotsOf, putOuts, natNodup, List.map_cons, List.map_nil, List.cons_append, List.nil_append, List.append_nil, List.replicate, List.length_cons, List.length_nil, isNone, isiD, seqD, gItem, truD, zipOf, zipD, pick, List.contains_nil, List.contains_cons, eq_self, if_true, if_false, Bool.false_eq_true, Bool.true_eq_false, Bool.not_true, Bool.not_false, reduceIte, decide_true, decide_false, Nat.reduceAdd, Nat.reduceSub, Nat.zero_add, Nat.add_zero, and_self, true_and, and_true, Bool.and_true, Bool.true_and, Bool.or_false, Bool.false_or, Bool.or_true, Bool.true_or, Bool.and_false, Bool.false_and, Bool.or_self, Bool.and_self, Nat.sub_self, Option.map_some, Option.map_none, Nat.reduceBEq, Bool.not_eq_true, beq_self_eq_true, Nat.reduceLeDiff, Nat.reduceLT, Nat.reduceEqDiff, List.filterMap_cons, List.filterMap_nil, k__law_without, k__law_without_b, eS, withoutS, eE, q_en1, q_en2, q_en3, q_nn1, q_nn2, q_nn3, c1]
theorem k_lguarded_ok (hm : ∀ a b, f [.val (eS a), .val (eS b)] = some (.val (eS (meetS a b)), [])) (hw : ∀ l r o o2, g [.val (eS (some (l, r))), .val (eS (some (o, o2)))] = some (.val (eS (withoutS (some (l, r)) (some (o, o2)))), [])) (w : Wd4) (a b : SS) :
    k__law_guarded f g [.val (.str w.s), .val (eS a), .val (eS b)] = some (.val (ePr (guardS w a b)), []) := by
  rcases a with _ | ⟨a1, a2⟩
  · have e : guardS w none b = (none, none) := by cases w <;> cases b <;> rfl
    rw [e]
    simp! only [k__law_guarded, k__law_guarded_b, eS_n, ePr]
  rcases b with _ | ⟨b1, b2⟩
  · have e : guardS w (some (a1, a2)) none = (none, none) := by cases w <;> rfl
    rw [e]
    simp! only [k__law_guarded, k__law_guarded_b, eS_n, eS_s, ePr]
  have h0 : ∀ z : SS, gEq (eS z) (.tuple []) = some (.bool (decide (z = none))) := fun z => q_eqS z none
  have fin : ∀ x y : SS, (if decide (x = none) = true then true else decide (y = none)) = (x.isNone || y.isNone) := fun x y => by cases x <;> cases y <;> rfl
  cases w
  · have m1 := hm (some (a1, a2)) (some (none, addE b2 (-1)))
    have m2 := hm (some (b1, b2)) (some (addE a1 1, none))
    rw [show guardS .lt (some (a1, a2)) (some (b1, b2)) = normS (meetS (some (a1, a2)) (some (none, addE b2 (-1))), meetS (some (b1, b2)) (some (addE a1 1, none))) from rfl, ePr_norm]
    generalize meetS (some (a1, a2)) (some (none, addE b2 (-1))) = x at m1
    generalize meetS (some (b1, b2)) (some (addE a1 1, none)) = y at m2
    have hx := h0 x
    have hy := h0 y
    rcases b2 with _ | b2 <;> rcases a1 with _ | a1 <;> simp only [addE, Option.map_none, Option.map_some, eS_s, eE_n, eE_s, ← Int.sub_eq_add_neg] at m1 m2 <;> cases x <;> cases y <;>
      simp! only [k__law_guarded, k__law_guarded_b, Wd4.s, q_w1, q_w9, q_w13, eS_s, eS_n, eE_n, eE_s, m1, m2, Option.isNone_none, Option.isNone_some] <;> simp! only [hx, hy, Option.isNone_none, Option.isNone_some, reduceCtorEq, eS_n]
  · have m1 := hm (some (a1, a2)) (some (none, addE b2 (-0)))
    have m2 := hm (some (b1, b2)) (some (addE a1 0, none))
    rw [show guardS .le (some (a1, a2)) (some (b1, b2)) = normS (meetS (some (a1, a2)) (some (none, addE b2 (-0))), meetS (some (b1, b2)) (some (addE a1 0, none))) from rfl, ePr_norm]
    generalize meetS (some (a1, a2)) (some (none, addE b2 (-0))) = x at m1
    generalize meetS (some (b1, b2)) (some (addE a1 0, none)) = y at m2
    have hx := h0 x
    have hy := h0 y
    rcases b2 with _ | b2 <;> rcases a1 with _ | a1 <;> simp only [addE, Option.map_none, Option.map_some, eS_s, eE_n, eE_s, ← Int.sub_eq_add_neg] at m1 m2 <;> cases x <;> cases y <;>
      simp! only [k__law_guarded, k__law_guarded_b, Wd4.s, q_w2, q_w10, q_w14, eS_s, eS_n, eE_n, eE_s, m1, m2, Option.isNone_none, Option.isNone_some] <;> simp! only [hx, hy, Option.isNone_none, Option.isNone_some, reduceCtorEq, eS_n]
  · have m1 := hm (some (a1, a2)) (some (b1, b2))
    rw [show guardS .eq (some (a1, a2)) (some (b1, b2)) = (meetS (some (a1, a2)) (some (b1, b2)), meetS (some (a1, a2)) (some (b1, b2))) from rfl]
    generalize meetS (some (a1, a2)) (some (b1, b2)) = x at m1
    have hx := h0 x
    simp only [eS_s] at m1
    cases x <;> simp! only [k__law_guarded, k__law_guarded_b, Wd4.s, q_w11, eS_s, eS_n, m1, ePr] <;> simp! only [hx, reduceCtorEq, eS_n]
  · have m1 := hw a1 a2 b1 b2
    have m2 := hw b1 b2 a1 a2
    rw [show guardS .ne (some (a1, a2)) (some (b1, b2)) = normS (withoutS (some (a1, a2)) (some (b1, b2)), withoutS (some (b1, b2)) (some (a1, a2))) from rfl, ePr_norm]
    generalize withoutS (some (a1, a2)) (some (b1, b2)) = x at m1
    generalize withoutS (some (b1, b2)) (some (a1, a2)) = y at m2
    have hx := h0 x
    have hy := h0 y
    simp only [eS_s] at m1 m2
    cases x <;> cases y <;> simp! only [k__law_guarded, k__law_guarded_b, Wd4.s, q_w12, q_w16, eS_s, eS_n, m1, m2, Option.isNone_none, Option.isNone_some] <;> simp! only [hx, hy, Option.isNone_none, Option.isNone_some, reduceCtorEq, eS_n]
end
end Ev
namespace Ev
open PySem PySem.Spec PyProof.Rows L2
/-! ## k28: laws of guards -/
theorem ok_norm {p : SS × SS} (h1 : okS p.1 = true) (h2 : okS p.2 = true) : okS (normS p).1 = true ∧ okS (normS p).2 = true := by
  unfold normS
  split
  · exact ⟨rfl, rfl⟩
  · exact ⟨h1, h2⟩
theorem wo_ss {l r o : Int} (h : l ≠ r) : withoutS (some (some l, some r)) (some (some o, some o)) = some (some (if l = o then l + 1 else l), some (if r = o then r - 1 else r)) := by
  by_cases c1 : l = o <;> by_cases c2 : r = o <;> simp [withoutS, addE, h, c1, c2] <;> omega
theorem wo_sn {l o : Int} : withoutS (some (some l, none)) (some (some o, some o)) = some (some (if l = o then l + 1 else l), none) := by
  by_cases c1 : l = o <;> simp [withoutS, addE, c1]
theorem wo_ns {r o : Int} : withoutS (some (none, some r)) (some (some o, some o)) = some (none, some (if r = o then r - 1 else r)) := by
  by_cases c1 : r = o <;> simp [withoutS, addE, c1] <;> omega
theorem wo_nn {o : Int} : withoutS (some (none, none)) (some (some o, some o)) = some (none, none) := by
  simp [withoutS]
theorem wo_1 {l o : Int} : withoutS (some (some l, some l)) (some (some o, some o)) = if l = o then none else some (some l, some l) := by
  by_cases c1 : l = o <;> simp [withoutS, c1]
theorem wo_x {a : EE × EE} {o o2 : EE} (h : o = none ∨ o ≠ o2) : withoutS (some a) (some (o, o2)) = some a := by
  simp only [withoutS]
  rw [if_pos h]
/-- each case of taking one out -/
theorem wo_cases {P : SS → Prop} {l r o o2 : EE} (h0 : (o = none ∨ o ≠ o2) → P (some (l, r))) (h1 : ∀ x, l = some x → r = some x → ∀ k, o = some k → o2 = some k → P (if x = k then none else some (some x, some x)))
    (h2 : ∀ x y k, l = some x → r = some y → x ≠ y → o = some k → o2 = some k → P (some (some (if x = k then x + 1 else x), some (if y = k then y - 1 else y))))
    (h3 : ∀ x k, l = some x → r = none → o = some k → o2 = some k → P (some (some (if x = k then x + 1 else x), none))) (h4 : ∀ y k, l = none → r = some y → o = some k → o2 = some k → P (some (none, some (if y = k then y - 1 else y))))
    (h5 : ∀ k, l = none → r = none → o = some k → o2 = some k → P (some (none, none))) : P (withoutS (some (l, r)) (some (o, o2))) := by
  by_cases h : o = none ∨ o ≠ o2
  · rw [wo_x h]; exact h0 h
  · rw [not_or] at h
    have e : o = o2 := Classical.byContradiction fun z => h.2 z
    subst e
    obtain ⟨k, rfl⟩ := Option.ne_none_iff_exists'.mp h.1
    rcases l with _ | x <;> rcases r with _ | y
    · rw [wo_nn]; exact h5 k rfl rfl rfl rfl
    · rw [wo_ns]; exact h4 y k rfl rfl rfl rfl
    · rw [wo_sn]; exact h3 x k rfl rfl rfl rfl
    · by_cases c : x = y
      · subst c; rw [wo_1]; exact h1 x rfl rfl k rfl rfl
      · rw [wo_ss c]; exact h2 x y k rfl rfl c rfl rfl
theorem ok_without {a b : SS} (ha : okS a = true) : okS (withoutS a b) = true := by
  rcases a with _ | ⟨l, r⟩ <;> rcases b with _ | ⟨o, o2⟩ <;> try rfl
  refine wo_cases (P := fun z => okS z = true) (fun _ => ha) (fun x _ _ k _ _ => ?_) (fun x y k e1 e2 hn _ _ => ?_) (fun _ _ _ _ _ _ => rfl) (fun _ _ _ _ _ _ => rfl) (fun _ _ _ _ _ => rfl)
  · split
    · rfl
    · exact decide_eq_true (Int.le_refl _)
  · subst e1 e2
    have h := of_decide_eq_true (show decide (x ≤ y) = true from ha)
    refine decide_eq_true ?_
    split <;> split <;> omega
theorem ok_guard (w : Wd4) {a b : SS} (ha : okS a = true) (hb : okS b = true) : okS (guardS w a b).1 = true ∧ okS (guardS w a b).2 = true := by
  have hl : ∀ k, okS (lessS a b k).1 = true ∧ okS (lessS a b k).2 = true := fun k => by
    rcases a with _ | ⟨a1, a2⟩ <;> rcases b with _ | ⟨b1, b2⟩ <;> first | exact ⟨rfl, rfl⟩ | (simp only [lessS]; exact ⟨ok_meet _ _, ok_meet _ _⟩)
  cases w
  · exact ok_norm (hl 1).1 (hl 1).2
  · exact ok_norm (hl 0).1 (hl 0).2
  · exact ⟨ok_meet _ _, ok_meet _ _⟩
  · exact ok_norm (ok_without ha) (ok_without hb)
theorem has_norm {p : SS × SS} {x y : Int} (h1 : hasS p.1 x = true) (h2 : hasS p.2 y = true) : hasS (normS p).1 x = true ∧ hasS (normS p).2 y = true := by
  unfold normS
  rw [if_neg]
  · exact ⟨h1, h2⟩
  · rintro (z | z)
    · rw [z] at h1; cases h1
    · rw [z] at h2; cases h2
theorem has_less {a b : SS} {x y k : Int} (h1 : hasS a x = true) (h2 : hasS b y = true) (h : x + k ≤ y) : hasS (lessS a b k).1 x = true ∧ hasS (lessS a b k).2 y = true := by
  rcases a with _ | ⟨a1, a2⟩
  · cases h1
  rcases b with _ | ⟨b1, b2⟩
  · cases h2
  simp only [lessS]
  rw [has_meet, has_meet, h1, h2]
  simp only [Bool.true_and]
  simp only [hasS, Bool.and_eq_true] at h1 h2
  constructor
  · rcases b2 with _ | b2 <;> simp_all [hasS, leE, addE] <;> omega
  · rcases a1 with _ | a1 <;> simp_all [hasS, leE, addE] <;> omega
theorem has_without {a b : SS} {x y : Int} (h1 : hasS a x = true) (h2 : hasS b y = true) (h : x ≠ y) : hasS (withoutS a b) x = true := by
  rcases a with _ | ⟨l, r⟩
  · cases h1
  rcases b with _ | ⟨o, o2⟩
  · cases h2
  have ek : ∀ k, o = some k → o2 = some k → k = y := fun k e1 e2 => by
    subst e1 e2
    simp only [hasS, leE, Bool.and_eq_true, decide_eq_true_eq] at h2
    omega
  refine wo_cases (P := fun z => hasS z x = true) (fun _ => h1) (fun u e1 e2 k e3 e4 => ?_) (fun u v k e1 e2 hn e3 e4 => ?_) (fun u k e1 e2 e3 e4 => ?_) (fun v k e1 e2 e3 e4 => ?_) (fun k e1 e2 e3 e4 => ?_)
  · have := ek k e3 e4
    subst e1 e2
    simp only [hasS, leE, Bool.and_eq_true, decide_eq_true_eq] at h1
    rw [if_neg (by omega)]
    simp only [hasS, leE, Bool.and_eq_true, decide_eq_true_eq]
    omega
  · have := ek k e3 e4
    subst e1 e2
    simp only [hasS, leE, Bool.and_eq_true, decide_eq_true_eq] at h1 ⊢
    constructor <;> split <;> omega
  · have := ek k e3 e4
    subst e1 e2
    simp only [hasS, leE, Bool.and_eq_true, decide_eq_true_eq, and_true] at h1 ⊢
    split <;> omega
  · have := ek k e3 e4
    subst e1 e2
    simp only [hasS, leE, Bool.and_eq_true, decide_eq_true_eq, true_and] at h1 ⊢
    split <;> omega
  · rfl
theorem has_guard (w : Wd4) {a b : SS} {x y : Int} (h1 : hasS a x = true) (h2 : hasS b y = true) (h : letsB w x y = true) : hasS (guardS w a b).1 x = true ∧ hasS (guardS w a b).2 y = true := by
  cases w
  · have := of_decide_eq_true h
    have := has_less (k := 1) h1 h2 (by omega)
    exact has_norm this.1 this.2
  · have := of_decide_eq_true h
    have := has_less (k := 0) h1 h2 (by omega)
    exact has_norm this.1 this.2
  · have e : x = y := of_decide_eq_true h
    subst e
    show hasS (meetS a b) x = true ∧ hasS (meetS a b) x = true
    rw [has_meet, h1, h2]
    exact ⟨rfl, rfl⟩
  · have e : x ≠ y := by simpa [letsB] using h
    exact has_norm (has_without h1 h2 e) (has_without h2 h1 fun z => e z.symm)
theorem wo_again {a : SS} {k : Int} {x : EE × EE} (hx : withoutS a (some (some k, some k)) = some x) : withoutS (some x) (some (some k, some k)) = some x := by
  rcases a with _ | ⟨l, r⟩
  · cases hx
  have go : ∀ {l2 r2 : EE}, l2 ≠ some k → r2 ≠ some k → withoutS (some (l2, r2)) (some (some k, some k)) = some (l2, r2) := fun {l2 r2} h1 h2 => by
    rcases l2 with _ | u <;> rcases r2 with _ | v
    · exact wo_nn
    · rw [wo_ns, if_neg fun z => h2 (congrArg some z)]
    · rw [wo_sn, if_neg fun z => h1 (congrArg some z)]
    · by_cases c : u = v
      · subst c
        rw [wo_1, if_neg fun z => h1 (congrArg some z)]
      · rw [wo_ss c, if_neg fun z => h1 (congrArg some z), if_neg fun z => h2 (congrArg some z)]
  rcases l with _ | u <;> rcases r with _ | v
  · rw [wo_nn] at hx; cases hx; exact go (by simp) (by simp)
  · rw [wo_ns] at hx; cases hx
    refine go (by simp) fun z => ?_
    have := Option.some.inj z
    split at this <;> omega
  · rw [wo_sn] at hx; cases hx
    refine go (fun z => ?_) (by simp)
    have := Option.some.inj z
    split at this <;> omega
  · by_cases c : u = v
    · subst c
      rw [wo_1] at hx
      by_cases c2 : u = k
      · rw [if_pos c2] at hx; cases hx
      · rw [if_neg c2] at hx; cases hx
        exact go (fun z => c2 (Option.some.inj z)) (fun z => c2 (Option.some.inj z))
    · rw [wo_ss c] at hx; cases hx
      refine go (fun z => ?_) (fun z => ?_)
      · have := Option.some.inj z
        split at this <;> omega
      · have := Option.some.inj z
        split at this <;> omega
theorem wo_idem {a b : SS} {x y : EE × EE} (hx : withoutS a b = some x) (hy : withoutS b a = some y) : withoutS (some x) (some y) = some x := by
  obtain ⟨o, o2⟩ := y
  by_cases h : o = none ∨ o ≠ o2
  · exact wo_x h
  rw [not_or] at h
  have e : o = o2 := Classical.byContradiction fun z => h.2 z
  subst e
  obtain ⟨k, rfl⟩ := Option.ne_none_iff_exists'.mp h.1
  rcases a with _ | ⟨l, r⟩
  · cases hx
  rcases b with _ | ⟨p, q⟩
  · cases hy
  by_cases hb : p = some k ∧ q = some k
  · obtain ⟨rfl, rfl⟩ := hb
    exact wo_again hx
  · by_cases h1 : l = none ∨ l ≠ r
    · rw [wo_x h1] at hy
      cases hy
      exact absurd ⟨rfl, rfl⟩ hb
    rw [not_or] at h1
    have e : l = r := Classical.byContradiction fun z => h1.2 z
    subst e
    obtain ⟨m, rfl⟩ := Option.ne_none_iff_exists'.mp h1.1
    rcases p with _ | u <;> rcases q with _ | v
    · rw [wo_nn] at hy; cases hy
    · rw [wo_ns] at hy; cases hy
    · rw [wo_sn] at hy; cases hy
    · by_cases c : u = v
      · subst c
        rw [wo_1] at hy
        by_cases c2 : u = m
        · rw [if_pos c2] at hy; cases hy
        · rw [if_neg c2] at hy; cases hy; exact absurd ⟨rfl, rfl⟩ hb
      · rw [wo_x (.inr fun z => c (Option.some.inj z))] at hx
        cases hx
        rw [wo_ss c] at hy
        injection hy with hy
        injection hy with hy1 hy2
        have hy1 := Option.some.inj hy1
        have hy2 := Option.some.inj hy2
        rw [wo_1, if_neg]
        intro z
        subst z
        split at hy1 <;> split at hy2 <;> omega
theorem norm_none_l {x : SS} : normS (none, x) = (none, none) := by simp [normS]
theorem norm_none_r {x : SS} : normS (x, none) = (none, none) := by simp [normS]
theorem norm_some {x y : EE × EE} : normS (some x, some y) = (some x, some y) := by simp [normS]
theorem high_idem (a b : EE) : highM (highM a b) b = highM a b := by rcases a with _ | a <;> rcases b with _ | b <;> simp [highM] <;> omega
theorem low_idem (a b : EE) : lowM (lowM a b) b = lowM a b := by rcases a with _ | a <;> rcases b with _ | b <;> simp [lowM] <;> omega
theorem lowM_none (a : EE) : lowM a none = a := by cases a <;> rfl
theorem highM_none (a : EE) : highM a none = a := by cases a <;> rfl
theorem less_idem {a b : SS} {x y : EE × EE} {k : Int} (hx : (lessS a b k).1 = some x) (hy : (lessS a b k).2 = some y) : lessS (some x) (some y) k = (some x, some y) := by
  rcases a with _ | ⟨a1, a2⟩
  · cases hx
  rcases b with _ | ⟨b1, b2⟩
  · cases hx
  simp only [lessS, meetS, lowM_none, highM_none] at hx hy
  by_cases c1 : leE a1 (highM a2 (addE b2 (-k))) = true
  · by_cases c2 : leE (lowM b1 (addE a1 k)) b2 = true
    · rw [if_pos c1] at hx
      rw [if_pos c2] at hy
      cases hx
      cases hy
      simp only [lessS, meetS, lowM_none, highM_none, high_idem, low_idem, c1, c2, if_true]
    · rw [if_neg c2] at hy; cases hy
  · rw [if_neg c1] at hx; cases hx
theorem guard_idem (w : Wd4) (a b : SS) : guardS w (guardS w a b).1 (guardS w a b).2 = guardS w a b := by
  have gl : ∀ k, normS (lessS (normS (lessS a b k)).1 (normS (lessS a b k)).2 k) = normS (lessS a b k) := fun k => by
    cases h1 : (lessS a b k).1 with
    | none =>
      rw [show lessS a b k = (none, (lessS a b k).2) from Prod.ext h1 rfl, norm_none_l]
      rfl
    | some x =>
      cases h2 : (lessS a b k).2 with
      | none =>
        rw [show lessS a b k = ((lessS a b k).1, none) from Prod.ext rfl h2, norm_none_r]
        rfl
      | some y =>
        rw [show lessS a b k = (some x, some y) from Prod.ext h1 h2, norm_some]
        show normS (lessS (some x) (some y) k) = _
        rw [less_idem h1 h2, norm_some]
  cases w
  · exact gl 1
  · exact gl 0
  · show (meetS (meetS a b) (meetS a b), meetS (meetS a b) (meetS a b)) = (meetS a b, meetS a b)
    have e : meetS (meetS a b) (meetS a b) = meetS a b := by
      have := ok_meet a b
      generalize meetS a b = z at this
      rcases z with _ | ⟨l, r⟩
      · rfl
      · have h1 : lowM l l = l := by cases l <;> simp [lowM]
        have h2 : highM r r = r := by cases r <;> simp [highM]
        simp only [meetS, h1, h2]
        exact if_pos this
    rw [e]
  · show normS (withoutS (normS (withoutS a b, withoutS b a)).1 (normS (withoutS a b, withoutS b a)).2, withoutS (normS (withoutS a b, withoutS b a)).2 (normS (withoutS a b, withoutS b a)).1) = normS (withoutS a b, withoutS b a)
    cases h1 : withoutS a b with
    | none => rw [norm_none_l]; rfl
    | some x =>
      cases h2 : withoutS b a with
      | none => rw [norm_none_r]; rfl
      | some y =>
        rw [norm_some]
        show normS (withoutS (some x) (some y), withoutS (some y) (some x)) = _
        rw [wo_idem h1 h2, wo_idem h2 h1, norm_some]
end Ev
namespace Ev
local macro_rules
  | `(tactic| simp! only [$as,*]) => `(tactic| simp only [↓x_var, ↓x_C, ↓x_op, ↓x_fz, ↓x_rV, ↓x_B, ↓x_chain, ↓x_tru, ↓x_notT, ↓x_andT, ↓x_orT, ↓x_and, ↓x_or, ↓x_not, ↓x_neg, ↓x_if, ↓x_aNil, ↓x_aVal, ↓x_aSlot, ↓x_aTmp, ↓x_aR, ↓x_call, ↓x_callK, ↓x_dNil, ↓x_dCons, ↓x_tup, ↓x_lst, ↓x_itemN, ↓x_ownItem, ↓x_lenN, ↓x_blt, ↓x_isi, ↓x_list, ↓x_rgL1, ↓x_rgL2, ↓x_iSeq, ↓x_iZip, ↓x_range1, ↓x_range2, ↓x_addR, ↓x_slice, ↓x_partN, ↓x_partS, ↓x_comp, ↓x_skip, ↓x_stuck, ↓x_break, ↓x_cont, ↓x_seq, ↓x_sIf, ↓x_sExpr, ↓x_ret, ↓x_retN, ↓x_move, ↓x_setRv, ↓x_setRf, ↓x_set, ↓x_gN, ↓x_gsNil, ↓x_gsCons, ↓x_gTup, ↓x_gIx, ↓x_setAt, ↓x_asg, ↓x_par, ↓x_sm0, ↓x_smV, ↓x_smF, ↓x_app, ↓x_for, ↓x_for0, ↓x_for1, ↓x_comp0, ↓x_comp1, ↓x_fn, ↓x_iEnum, ↓x_range3, ↓x_comp2, ↓x_compN0, ↓x_compN1, q_addI, q_addT, q_addL, q_subI, q_ltI, q_leI, q_gtI, q_geI, q_isN, q_isNotN, q_eqI, q_neI, q_eqB, q_eqT0, q_eqT1, q_neT0, q_neT1, q_eqL0, q_eqL1, q_neL0, q_neL1, q_int, q_abs, q_min2, q_max2, q_at0, q_at1, q_at2, q_at3, q_ix0, q_ix1, q_ix2, q_sz, q_iteS, q_iteT, q_iteR, q_iteV, q_iteBB, q_iteII, q_iteAnd, q_iteOr, q_iteNot, q_iteCon, q_pa0, q_pa1, q_pa2, q_pa3, q_ow0, q_ow1, q_ow2, q_ow3, q_c0, q_c1, q_c2, q_c3, q_c4, q_c5, q_c6, q_c7, q_c8, q_c9, q_c10, q_c11, q_c12, q_all0, q_all1, q_all2, q_all3, q_inN2, q_inN0, q_02a, q_02b, List.getElem?_cons_zero, List.getElem?_cons_succ, List.set_cons_zero, List.set_cons_succ, wipeE, initE, outsOf, toAv, slotsOf, putOuts, natNodup, List.map_cons, List.map_nil, List.cons_append, List.nil_append, List.append_nil, List.replicate, List.length_cons, List.length_nil, isNone, isiD, seqD, gItem, truD, zipOf, zipD, pick, List.contains_nil, List.contains_cons, eq_self, if_true, if_false, Bool.false_eq_true, Bool.true_eq_false, Bool.not_true, Bool.not_false, reduceIte, decide_true, decide_false, Nat.reduceAdd, Nat.reduceSub, Nat.zero_add, Nat.add_zero, and_self, true_and, and_true, Bool.and_true, Bool.true_and, Bool.or_false, Bool.false_or, Bool.or_true, Bool.true_or, Bool.and_false, Bool.false_and, Bool.or_self, Bool.and_self, Nat.sub_self, Option.map_some, Option.map_none, Nat.reduceBEq, Bool.not_eq_true, beq_self_eq_true, Nat.reduceLeDiff, Nat.reduceLT, Nat.reduceEqDiff, List.filterMap_cons, List.filterMap_nil, $as,*])
open PySem PySem.Spec PyProof.Rows L2
/-! ## all numbers of a small stretch -/
def allS : SS → List Int
  | some (some l, some h) => if 11 < h - l then [] else (List.range (h + 1 - l).toNat).map fun k => l + (k : Nat)
  | _ => []
theorem allS_len (a : SS) : (allS a).length ≤ 12 := by
  unfold allS
  split
  · split
    · exact Nat.zero_le _
    · rw [List.length_map, List.length_range]; omega
  · exact Nat.zero_le _
theorem allS_mem {a : SS} (ha : allS a ≠ []) : ∃ l h, a = some (some l, some h) ∧ ∀ x, x ∈ allS a ↔ l ≤ x ∧ x ≤ h := by
  unfold allS at ha ⊢
  split at ha
  · rename_i l h
    refine ⟨l, h, rfl, fun x => ?_⟩
    split at ha
    · exact absurd rfl ha
    · rename_i hn
      rw [if_neg hn]
      constructor
      · intro hx
        obtain ⟨k, hk, rfl⟩ := List.mem_map.mp hx
        have := List.mem_range.mp hk
        omega
      · intro hx
        exact List.mem_map.mpr ⟨(x - l).toNat, List.mem_range.mpr (by omega), by omega⟩
  · exact absurd rfl ha
theorem range_ints (lo : Int) (n : Nat) : rangeD lo n = ((List.range n).map fun k => lo + (k : Nat)).map PyData.int := by
  unfold rangeD
  rw [List.map_map]
  rfl
section
variable {f g h w : Fn}
theorem k_all_ok (a : SS) : k__law_all [.val (eS a)] = some (.fresh ((allS a).map PyData.int), []) := by
  rcases a with _ | ⟨_ | l, _ | r⟩
  · simp! only [k__law_all, k__law_all_b, eS_n, allS]
  · simp! only [k__law_all, k__law_all_b, eS_s, eE, allS]
  · simp! only [k__law_all, k__law_all_b, eS_s, eE, allS]
  · simp! only [k__law_all, k__law_all_b, eS_s, eE, allS]
  · by_cases c : 11 < r - l
    · simp! only [k__law_all, k__law_all_b, eS_s, eE, allS, c]
    · have hb : rgB l (r + 1) = true := decide_eq_true (by omega)
      simp! only [k__law_all, k__law_all_b, eS_s, eE, allS, c, hb, range_ints]
/-! ### hulls -/
theorem intsOf_map : ∀ ns : List Int, intsOf (ns.map PyData.int) = some ns
  | [] => rfl
  | n :: ns => by
    show intsOf (.int n :: ns.map PyData.int) = _
    simp [intsOf, intsOf_map ns]
def hullS : List Int → SS
  | [] => none
  | n :: ns => some (some (ns.foldl min n), some (ns.foldl max n))
theorem k_hull_ok (ns : List Int) : k__law_hull [.val (.list (ns.map PyData.int))] = some (.val (eS (hullS ns)), []) := by
  cases ns with
  | nil => simp! only [k__law_hull, k__law_hull_b, hullS, eS_n]
  | cons n ns =>
    have h1 : gMin [.list (.int n :: ns.map PyData.int)] = some (.int (ns.foldl min n)) := by
      show (intsOf ((n :: ns).map PyData.int)).bind _ = _
      rw [intsOf_map]
      rfl
    have h2 : gMax [.list (.int n :: ns.map PyData.int)] = some (.int (ns.foldl max n)) := by
      show (intsOf ((n :: ns).map PyData.int)).bind _ = _
      rw [intsOf_map]
      rfl
    simp! only [k__law_hull, k__law_hull_b, hullS, eS_s, eE_s, h1, h2]
theorem foldl_min : ∀ (ns : List Int) (n : Int), (ns.foldl min n = n ∨ ns.foldl min n ∈ ns) ∧ ns.foldl min n ≤ n ∧ ∀ x ∈ ns, ns.foldl min n ≤ x
  | [], n => ⟨.inl rfl, Int.le_refl _, fun _ h => by cases h⟩
  | m :: ns, n => by
    obtain ⟨h1, h2, h3⟩ := foldl_min ns (min n m)
    rw [List.foldl_cons]
    refine ⟨?_, by omega, fun x hx => ?_⟩
    · rcases h1 with h1 | h1
      · rw [h1]
        rcases Int.le_total n m with q | q
        · left; omega
        · right; rw [show min n m = m by omega]; exact List.mem_cons_self ..
      · exact .inr (List.mem_cons_of_mem _ h1)
    · rcases List.mem_cons.mp hx with rfl | hx
      · omega
      · exact h3 x hx
theorem foldl_max : ∀ (ns : List Int) (n : Int), (ns.foldl max n = n ∨ ns.foldl max n ∈ ns) ∧ n ≤ ns.foldl max n ∧ ∀ x ∈ ns, x ≤ ns.foldl max n
  | [], n => ⟨.inl rfl, Int.le_refl _, fun _ h => by cases h⟩
  | m :: ns, n => by
    obtain ⟨h1, h2, h3⟩ := foldl_max ns (max n m)
    rw [List.foldl_cons]
    refine ⟨?_, by omega, fun x hx => ?_⟩
    · rcases h1 with h1 | h1
      · rw [h1]
        rcases Int.le_total n m with q | q
        · right; rw [show max n m = m by omega]; exact List.mem_cons_self ..
        · left; omega
      · exact .inr (List.mem_cons_of_mem _ h1)
    · rcases List.mem_cons.mp hx with rfl | hx
      · omega
      · exact h3 x hx
/-- the hull told by its ends -/
theorem hull_of {ns : List Int} {p q : Int} (hp : p ∈ ns) (hq : q ∈ ns) (h : ∀ x ∈ ns, p ≤ x ∧ x ≤ q) : hullS ns = some (some p, some q) := by
  cases ns with
  | nil => cases hp
  | cons n ns =>
    obtain ⟨a1, a2, a3⟩ := foldl_min ns n
    obtain ⟨b1, b2, b3⟩ := foldl_max ns n
    have m1 : ns.foldl min n ∈ n :: ns := by rcases a1 with e | e; (rw [e]; exact List.mem_cons_self ..); exact List.mem_cons_of_mem _ e
    have m2 : ns.foldl max n ∈ n :: ns := by rcases b1 with e | e; (rw [e]; exact List.mem_cons_self ..); exact List.mem_cons_of_mem _ e
    have l1 : ns.foldl min n ≤ p := by rcases List.mem_cons.mp hp with rfl | e; exact a2; exact a3 p e
    have l2 : q ≤ ns.foldl max n := by rcases List.mem_cons.mp hq with rfl | e; exact b2; exact b3 q e
    have := (h _ m1).1
    have := (h _ m2).2
    show some (some (ns.foldl min n), some (ns.foldl max n)) = _
    rw [show ns.foldl min n = p by omega, show ns.foldl max n = q by omega]
/-! ### pairs tried -/
def pairsS (w : Wd4) (a b : SS) : List (Int × Int) := (allS a).flatMap fun x => ((allS b).filter (letsB w x)).map fun y => (x, y)
def envT (w : Wd4) (a b : SS) (P : List (Int × Int)) (s3 s6 : Sl) : En := [.val (.str w.s), .val (eS a), .val (eS b), s3, .own ((P.map Prod.fst).map PyData.int), .own ((P.map Prod.snd).map PyData.int), s6]
theorem inner_ok {w : Wd4} {a b : SS} {le : Fn} (hl : ∀ x y : Int, le [.val (.str w.s), .val (.int x), .val (.int y)] = some (.val (.bool (letsB w x y)), [])) (x : Int) : ∀ (ys : List Int) (P : List (Int × Int)) (s6 : Sl), Fr s6 → P.length + ys.length < 1000 →
    ∃ s6', forL (gN 6) (sIf (eTru (eFz (eCall le (aVal (eVar 0) (aVal (eVar 3) (aVal (eVar 6) aNil)))))) (sSeq (sApp 4 (eVar 3)) (sApp 5 (eVar 6))) sSkip) (ys.map PyData.int) (envT w a b P (.val (.int x)) s6) =
      some (.nx, envT w a b (P ++ (ys.filter (letsB w x)).map fun y => (x, y)) (.val (.int x)) s6') ∧ Fr s6'
  | [], P, s6, hs, _ => ⟨s6, by simp only [List.map_nil, x_for0, List.filter_nil, List.append_nil], hs⟩
  | y :: ys, P, s6, hs, hP => by
    rw [List.length_cons] at hP
    have l1 : ((P.map Prod.fst).map PyData.int).length < 16777216 := by rw [List.length_map, List.length_map]; omega
    have l2 : ((P.map Prod.snd).map PyData.int).length < 16777216 := by rw [List.length_map, List.length_map]; omega
    have hg : gN 6 (.int y) (envT w a b P (.val (.int x)) s6) = some (envT w a b P (.val (.int x)) (.val (.int y))) := by
      simp! only [envT, show isPar s6 = false from hs]
    rw [List.map_cons, x_for1, hg]
    dsimp only
    cases q : letsB w x y with
    | true =>
      have hb : (sIf (eTru (eFz (eCall le (aVal (eVar 0) (aVal (eVar 3) (aVal (eVar 6) aNil)))))) (sSeq (sApp 4 (eVar 3)) (sApp 5 (eVar 6))) sSkip) (envT w a b P (.val (.int x)) (.val (.int y))) = some (.nx, envT w a b (P ++ [(x, y)]) (.val (.int x)) (.val (.int y))) := by
        simp! only [envT, hl, q, appAt, l1, l2, List.map_append]
      obtain ⟨s', e1, e2⟩ := inner_ok hl x ys (P ++ [(x, y)]) (.val (.int y)) rfl (by rw [List.length_append, List.length_singleton]; omega)
      refine ⟨s', ?_, e2⟩
      rw [hb]
      dsimp only
      rw [e1, List.filter_cons_of_pos q, List.map_cons, List.append_assoc]
      rfl
    | false =>
      have hb : (sIf (eTru (eFz (eCall le (aVal (eVar 0) (aVal (eVar 3) (aVal (eVar 6) aNil)))))) (sSeq (sApp 4 (eVar 3)) (sApp 5 (eVar 6))) sSkip) (envT w a b P (.val (.int x)) (.val (.int y))) = some (.nx, envT w a b P (.val (.int x)) (.val (.int y))) := by
        simp! only [envT, hl, q]
      obtain ⟨s', e1, e2⟩ := inner_ok hl x ys P (.val (.int y)) rfl (by omega)
      refine ⟨s', ?_, e2⟩
      rw [hb]
      dsimp only
      rw [e1, List.filter_cons_of_neg (by rw [q]; decide)]
theorem outer_ok {w : Wd4} {a b : SS} {le al : Fn} (hl : ∀ x y : Int, le [.val (.str w.s), .val (.int x), .val (.int y)] = some (.val (.bool (letsB w x y)), [])) (ha : al [.val (eS b)] = some (.fresh ((allS b).map PyData.int), [])) : ∀ (xs : List Int) (P : List (Int × Int)) (s3 s6 : Sl), Fr s3 → Fr s6 → P.length + 12 * xs.length < 900 →
    ∃ s3' s6', forL (gN 3) (sFor (iSeq (eFz (eCall al (aVal (eVar 2) aNil)))) (gN 6) (sIf (eTru (eFz (eCall le (aVal (eVar 0) (aVal (eVar 3) (aVal (eVar 6) aNil)))))) (sSeq (sApp 4 (eVar 3)) (sApp 5 (eVar 6))) sSkip)) (xs.map PyData.int) (envT w a b P s3 s6) =
      some (.nx, envT w a b (P ++ xs.flatMap fun x => ((allS b).filter (letsB w x)).map fun y => (x, y)) s3' s6') ∧ Fr s3' ∧ Fr s6'
  | [], P, s3, s6, h3, h6, _ => ⟨s3, s6, by simp only [List.map_nil, x_for0, List.flatMap_nil, List.append_nil], h3, h6⟩
  | x :: xs, P, s3, s6, h3, h6, hP => by
    rw [List.length_cons] at hP
    have hb := allS_len b
    have hg : gN 3 (.int x) (envT w a b P s3 s6) = some (envT w a b P (.val (.int x)) s6) := by
      simp! only [envT, show isPar s3 = false from h3]
    obtain ⟨s6', e1, e2⟩ := inner_ok (a := a) (b := b) hl x (allS b) P s6 h6 (by omega)
    have hf : (sFor (iSeq (eFz (eCall al (aVal (eVar 2) aNil)))) (gN 6) (sIf (eTru (eFz (eCall le (aVal (eVar 0) (aVal (eVar 3) (aVal (eVar 6) aNil)))))) (sSeq (sApp 4 (eVar 3)) (sApp 5 (eVar 6))) sSkip)) (envT w a b P (.val (.int x)) s6) = some (.nx, envT w a b (P ++ ((allS b).filter (letsB w x)).map fun y => (x, y)) (.val (.int x)) s6') := by
      rw [x_for]
      have hi : iSeq (eFz (eCall al (aVal (eVar 2) aNil))) (envT w a b P (.val (.int x)) s6) = some ((allS b).map PyData.int, envT w a b P (.val (.int x)) s6) := by
        simp! only [envT, ha]
      rw [hi]
      exact e1
    have hlen : (((allS b).filter (letsB w x)).map fun y => (x, y)).length ≤ 12 := by
      rw [List.length_map]
      exact Nat.le_trans (List.length_filter_le _ _) hb
    obtain ⟨s3', s6'', e3, e4, e5⟩ := outer_ok hl ha xs (P ++ ((allS b).filter (letsB w x)).map fun y => (x, y)) (.val (.int x)) s6' rfl e2 (by rw [List.length_append]; omega)
    refine ⟨s3', s6'', ?_, e4, e5⟩
    rw [List.map_cons, x_for1, hg]
    dsimp only
    rw [hf]
    dsimp only
    rw [e3, List.flatMap_cons, List.append_assoc]
theorem k_tried_ok {al hu le : Fn} (h1 : ∀ a, al [.val (eS a)] = some (.fresh ((allS a).map PyData.int), [])) (h2 : ∀ ns : List Int, hu [.val (.list (ns.map PyData.int))] = some (.val (eS (hullS ns)), [])) (h3 : ∀ (w : Wd4) (x y : Int), le [.val (.str w.s), .val (.int x), .val (.int y)] = some (.val (.bool (letsB w x y)), [])) (w : Wd4) (a b : SS) :
    k__law_tried_v4 al hu le [.val (.str w.s), .val (eS a), .val (eS b)] = some (.val (ePr (hullS ((pairsS w a b).map Prod.fst), hullS ((pairsS w a b).map Prod.snd))), []) := by
  have hl := allS_len a
  obtain ⟨s3, s6, e1, e2, e3⟩ := outer_ok (w := w) (a := a) (b := b) (h3 w) (h1 b) (allS a) [] .no .no rfl rfl (by rw [List.length_nil]; omega)
  rw [List.nil_append] at e1
  simp only [envT, List.map_nil] at e1
  simp! only [k__law_tried_v4, k__law_tried_v4_b, h1, e1, h2, ePr]
  rfl
end
end Ev
namespace Ev
local macro_rules
  | `(tactic| simp! only [$as,*]) => `(tactic| simp only [↓x_var, ↓x_C, ↓x_op, ↓x_fz, ↓x_rV, ↓x_B, ↓x_chain, ↓x_tru, ↓x_notT, ↓x_andT, ↓x_orT, ↓x_and, ↓x_or, ↓x_not, ↓x_neg, ↓x_if, ↓x_aNil, ↓x_aVal, ↓x_aSlot, ↓x_aTmp, ↓x_aR, ↓x_call, ↓x_callK, ↓x_dNil, ↓x_dCons, ↓x_tup, ↓x_lst, ↓x_itemN, ↓x_ownItem, ↓x_lenN, ↓x_blt, ↓x_isi, ↓x_list, ↓x_rgL1, ↓x_rgL2, ↓x_iSeq, ↓x_iZip, ↓x_range1, ↓x_range2, ↓x_addR, ↓x_slice, ↓x_partN, ↓x_partS, ↓x_comp, ↓x_skip, ↓x_stuck, ↓x_break, ↓x_cont, ↓x_seq, ↓x_sIf, ↓x_sExpr, ↓x_ret, ↓x_retN, ↓x_move, ↓x_setRv, ↓x_setRf, ↓x_set, ↓x_gN, ↓x_gsNil, ↓x_gsCons, ↓x_gTup, ↓x_gIx, ↓x_setAt, ↓x_asg, ↓x_par, ↓x_sm0, ↓x_smV, ↓x_smF, ↓x_app, ↓x_for, ↓x_for0, ↓x_for1, ↓x_comp0, ↓x_comp1, ↓x_fn, ↓x_iEnum, ↓x_range3, ↓x_comp2, ↓x_compN0, ↓x_compN1, q_addI, q_addT, q_addL, q_subI, q_ltI, q_leI, q_gtI, q_geI, q_isN, q_isNotN, q_eqI, q_neI, q_eqB, q_eqT0, q_eqT1, q_neT0, q_neT1, q_eqL0, q_eqL1, q_neL0, q_neL1, q_int, q_abs, q_min2, q_max2, q_at0, q_at1, q_at2, q_at3, q_ix0, q_ix1, q_ix2, q_sz, q_iteS, q_iteT, q_iteR, q_iteV, q_iteBB, q_iteII, q_iteAnd, q_iteOr, q_iteNot, q_iteCon, q_pa0, q_pa1, q_pa2, q_pa3, q_ow0, q_ow1, q_ow2, q_ow3, q_c0, q_c1, q_c2, q_c3, q_c4, q_c5, q_c6, q_c7, q_c8, q_c9, q_c10, q_c11, q_c12, q_all0, q_all1, q_all2, q_all3, q_inN2, q_inN0, q_02a, q_02b, List.getElem?_cons_zero, List.getElem?_cons_succ, List.set_cons_zero, List.set_cons_succ, wipeE, initE, outsOf, toAv, slotsOf, putOuts, natNodup, List.map_cons, List.map_nil, List.cons_append, List.nil_append, List.append_nil, List.replicate, List.length_cons, List.length_nil, isNone, isiD, seqD, gItem, truD, zipOf, zipD, pick, List.contains_nil, List.contains_cons, eq_self, if_true, if_false, Bool.false_eq_true, Bool.true_eq_false, Bool.not_true, Bool.not_false, reduceIte, decide_true, decide_false, Nat.reduceAdd, Nat.reduceSub, Nat.zero_add, Nat.add_zero, and_self, true_and, and_true, Bool.and_true, Bool.true_and, Bool.or_false, Bool.false_or, Bool.or_true, Bool.true_or, Bool.and_false, Bool.false_and, Bool.or_self, Bool.and_self, Nat.sub_self, Option.map_some, Option.map_none, Nat.reduceBEq, Bool.not_eq_true, beq_self_eq_true, Nat.reduceLeDiff, Nat.reduceLT, Nat.reduceEqDiff, List.filterMap_cons, List.filterMap_nil, $as,*])
local macro_rules
  | `(tactic| dsimp! only [$as,*]) => `(tactic| simp only [↓x_var, ↓x_C, ↓x_op, ↓x_fz, ↓x_rV, ↓x_B, ↓x_chain, ↓x_tru, ↓x_notT, ↓x_andT, ↓x_orT, ↓x_and, ↓x_or, ↓x_not, ↓x_neg, ↓x_if, ↓x_aNil, ↓x_aVal, ↓x_aSlot, ↓x_aTmp, ↓x_aR, ↓x_call, ↓x_callK, ↓x_dNil, ↓x_dCons, ↓x_tup, ↓x_lst, ↓x_itemN, ↓x_ownItem, ↓x_lenN, ↓x_blt, ↓x_isi, ↓x_list, ↓x_rgL1, ↓x_rgL2, ↓x_iSeq, ↓x_iZip, ↓x_range1, ↓x_range2, ↓x_addR, ↓x_slice, ↓x_partN, ↓x_partS, ↓x_comp, ↓x_skip, ↓x_stuck, ↓x_break, ↓x_cont, ↓x_seq, ↓x_sIf, ↓x_sExpr, ↓x_ret, ↓x_retN, ↓x_move, ↓x_setRv, ↓x_setRf, ↓x_set, ↓x_gN, ↓x_gsNil, ↓x_gsCons, ↓x_gTup, ↓x_gIx, ↓x_setAt, ↓x_asg, ↓x_par, ↓x_sm0, ↓x_smV, ↓x_smF, ↓x_app, ↓x_for, ↓x_for0, ↓x_for1, ↓x_comp0, ↓x_comp1, ↓x_fn, ↓x_iEnum, ↓x_range3, ↓x_comp2, ↓x_compN0, ↓x_compN1, q_addI, q_addT, q_addL, q_subI, q_ltI, q_leI, q_gtI, q_geI, q_isN, q_isNotN, q_eqI, q_neI, q_eqB, q_eqT0, q_eqT1, q_neT0, q_neT1, q_eqL0, q_eqL1, q_neL0, q_neL1, q_int, q_abs, q_min2, q_max2, q_at0, q_at1, q_at2, q_at3, q_ix0, q_ix1, q_ix2, q_sz, q_iteS, q_iteT, q_iteR, q_iteV, q_iteBB, q_iteII, q_iteAnd, q_iteOr, q_iteNot, q_iteCon, q_pa0, q_pa1, q_pa2, q_pa3, q_ow0, q_ow1, q_ow2, q_ow3, q_c0, q_c1, q_c2, q_c3, q_c4, q_c5, q_c6, q_c7, q_c8, q_c9, q_c10, q_c11, q_c12, q_all0, q_all1, q_all2, q_all3, q_inN2, q_inN0, q_02a, q_02b, List.getElem?_cons_zero, List.getElem?_cons_succ, List.set_cons_zero, List.set_cons_succ, wipeE, initE, outsOf, toAv, slotsOf, putOuts, natNodup, List.map_cons, List.map_nil, List.cons_append, List.nil_append, List.append_nil, List.replicate, List.length_cons, List.length_nil, isNone, isiD, seqD, truD, zipOf, zipD, pick, List.contains_nil, List.contains_cons, eq_self, if_true, if_false, Bool.false_eq_true, Bool.true_eq_false, Bool.not_true, Bool.not_false, reduceIte, decide_true, decide_false, Nat.reduceAdd, Nat.reduceSub, Nat.zero_add, Nat.add_zero, and_self, true_and, and_true, Bool.and_true, Bool.true_and, Bool.or_false, Bool.false_or, Bool.or_true, Bool.true_or, Bool.and_false, Bool.false_and, Bool.or_self, Bool.and_self, Nat.sub_self, Option.map_some, Option.map_none, Nat.reduceBEq, Bool.not_eq_true, beq_self_eq_true, Nat.reduceLeDiff, Nat.reduceLT, Nat.reduceEqDiff, List.filterMap_cons, List.filterMap_nil, $as,*])
open PySem PySem.Spec PyProof.Rows L2
theorem pairs_mem {w : Wd4} {a b : SS} {x y : Int} : (x, y) ∈ pairsS w a b ↔ x ∈ allS a ∧ y ∈ allS b ∧ letsB w x y = true := by
  unfold pairsS
  rw [List.mem_flatMap]
  constructor
  · rintro ⟨x', hx, hm⟩
    obtain ⟨y', hy, e⟩ := List.mem_map.mp hm
    cases e
    obtain ⟨h1, h2⟩ := List.mem_filter.mp hy
    exact ⟨hx, h1, h2⟩
  · rintro ⟨h1, h2, h3⟩
    exact ⟨x, h1, List.mem_map.mpr ⟨y, List.mem_filter.mpr ⟨h2, h3⟩, rfl⟩⟩
theorem exact_of {P : List (Int × Int)} {G : SS × SS} {p q r s : Int} (e1 : G.1 = some (some p, some q)) (e2 : G.2 = some (some r, some s)) (hp : ∃ y, (p, y) ∈ P) (hq : ∃ y, (q, y) ∈ P) (hr : ∃ x, (x, r) ∈ P) (hs : ∃ x, (x, s) ∈ P)
    (h : ∀ x y, (x, y) ∈ P → hasS G.1 x = true ∧ hasS G.2 y = true) : (hullS (P.map Prod.fst), hullS (P.map Prod.snd)) = G := by
  obtain ⟨y1, hp⟩ := hp
  obtain ⟨y2, hq⟩ := hq
  obtain ⟨x1, hr⟩ := hr
  obtain ⟨x2, hs⟩ := hs
  rw [e1, e2] at h
  have i1 : ∀ x ∈ P.map Prod.fst, p ≤ x ∧ x ≤ q := fun x hx => by
    obtain ⟨⟨x', y'⟩, hm, rfl⟩ := List.mem_map.mp hx
    have := (h _ _ hm).1
    simpa [hasS, leE] using this
  have i2 : ∀ x ∈ P.map Prod.snd, r ≤ x ∧ x ≤ s := fun x hx => by
    obtain ⟨⟨x', y'⟩, hm, rfl⟩ := List.mem_map.mp hx
    have := (h _ _ hm).2
    simpa [hasS, leE] using this
  rw [hull_of (List.mem_map.mpr ⟨_, hp, rfl⟩) (List.mem_map.mpr ⟨_, hq, rfl⟩) i1, hull_of (List.mem_map.mpr ⟨_, hr, rfl⟩) (List.mem_map.mpr ⟨_, hs, rfl⟩) i2, ← e1, ← e2]
theorem norm_or (p : SS × SS) : normS p = (none, none) ∨ ∃ x y, p = (some x, some y) ∧ normS p = (some x, some y) := by
  obtain ⟨x, y⟩ := p
  cases x with
  | none => exact .inl norm_none_l
  | some x =>
    cases y with
    | none => exact .inl norm_none_r
    | some y => exact .inr ⟨x, y, rfl, norm_some⟩
theorem less_exact {l h u v k : Int} {x y : EE × EE} (e : lessS (some (some l, some h)) (some (some u, some v)) k = (some x, some y)) : l + k ≤ v ∧ x = (some l, some (min h (v - k))) ∧ y = (some (max u (l + k)), some v) ∧ l ≤ min h (v - k) ∧ max u (l + k) ≤ v := by
  simp only [lessS, meetS, addE, Option.map_some, lowM, highM, leE, decide_eq_true_eq] at e
  by_cases c1 : l ≤ min h (v + -k)
  · by_cases c2 : max u (l + k) ≤ v
    · rw [if_pos c1, if_pos c2] at e
      injection e with e1 e2
      cases e1
      cases e2
      rw [← Int.sub_eq_add_neg] at c1
      rw [← Int.sub_eq_add_neg]
      exact ⟨by omega, rfl, rfl, c1, c2⟩
    · rw [if_neg c2] at e; injection e with _ e2; cases e2
  · rw [if_neg c1] at e; injection e with e1; cases e1
theorem wo_exact {l h u v : Int} {x : EE × EE} (hlh : l ≤ h) (e : withoutS (some (some l, some h)) (some (some u, some v)) = some x) : ∃ p q, x = (some p, some q) ∧ l ≤ p ∧ p ≤ h ∧ l ≤ q ∧ q ≤ h ∧ (u = v → p ≠ u ∧ q ≠ u) := by
  by_cases c : u = v
  · subst c
    by_cases c2 : l = h
    · subst c2
      rw [wo_1] at e
      by_cases c3 : l = u
      · rw [if_pos c3] at e; cases e
      · rw [if_neg c3] at e; cases e
        exact ⟨l, l, rfl, by omega, by omega, by omega, by omega, fun _ => ⟨c3, c3⟩⟩
    · rw [wo_ss c2] at e
      cases e
      refine ⟨_, _, rfl, ?_, ?_, ?_, ?_, fun _ => ⟨?_, ?_⟩⟩ <;> split <;> omega
  · rw [wo_x (.inr fun z => c (Option.some.inj z))] at e
    cases e
    exact ⟨l, h, rfl, by omega, by omega, by omega, by omega, fun z => absurd z c⟩
theorem tried_exact (w : Wd4) {a b : SS} (ha : allS a ≠ []) (hb : allS b ≠ []) : (hullS ((pairsS w a b).map Prod.fst), hullS ((pairsS w a b).map Prod.snd)) = guardS w a b := by
  obtain ⟨l, h, rfl, ma⟩ := allS_mem ha
  obtain ⟨u, v, rfl, mb⟩ := allS_mem hb
  have hlh : l ≤ h := by
    obtain ⟨z, hz⟩ := List.exists_mem_of_ne_nil _ ha
    have := (ma z).mp hz
    omega
  have huv : u ≤ v := by
    obtain ⟨z, hz⟩ := List.exists_mem_of_ne_nil _ hb
    have := (mb z).mp hz
    omega
  have pm : ∀ {x y : Int}, (x, y) ∈ pairsS w (some (some l, some h)) (some (some u, some v)) ↔ (l ≤ x ∧ x ≤ h) ∧ (u ≤ y ∧ y ≤ v) ∧ letsB w x y = true := fun {x y} => by
    rw [pairs_mem, ma, mb]
  have sound : ∀ x y, (x, y) ∈ pairsS w (some (some l, some h)) (some (some u, some v)) → hasS (guardS w (some (some l, some h)) (some (some u, some v))).1 x = true ∧ hasS (guardS w (some (some l, some h)) (some (some u, some v))).2 y = true := fun x y hm => by
    obtain ⟨h1, h2, h3⟩ := pm.mp hm
    exact has_guard w (by simp [hasS, leE]; exact h1) (by simp [hasS, leE]; exact h2) h3
  have none_ : guardS w (some (some l, some h)) (some (some u, some v)) = (none, none) → (hullS ((pairsS w (some (some l, some h)) (some (some u, some v))).map Prod.fst), hullS ((pairsS w (some (some l, some h)) (some (some u, some v))).map Prod.snd)) = guardS w (some (some l, some h)) (some (some u, some v)) := fun e => by
    rw [e] at sound ⊢
    have : pairsS w (some (some l, some h)) (some (some u, some v)) = [] := List.eq_nil_iff_forall_not_mem.mpr fun ⟨x, y⟩ hm => by
      have := (sound x y hm).1
      cases this
    rw [this]
    rfl
  have lss : ∀ k : Int, guardS w (some (some l, some h)) (some (some u, some v)) = normS (lessS (some (some l, some h)) (some (some u, some v)) k) → (∀ x y, x + k ≤ y → letsB w x y = true) →
      (hullS ((pairsS w (some (some l, some h)) (some (some u, some v))).map Prod.fst), hullS ((pairsS w (some (some l, some h)) (some (some u, some v))).map Prod.snd)) = guardS w (some (some l, some h)) (some (some u, some v)) := fun k eg hk => by
    rcases norm_or (lessS (some (some l, some h)) (some (some u, some v)) k) with e | ⟨x, y, e1, e2⟩
    · exact none_ (eg.trans e)
    · obtain ⟨c0, rfl, rfl, c1, c2⟩ := less_exact e1
      rw [e2] at eg
      refine exact_of (congrArg Prod.fst eg) (congrArg Prod.snd eg) ⟨v, pm.mpr ⟨⟨by omega, by omega⟩, ⟨by omega, by omega⟩, hk _ _ (by omega)⟩⟩ ⟨v, pm.mpr ⟨⟨by omega, by omega⟩, ⟨by omega, by omega⟩, hk _ _ (by omega)⟩⟩ ⟨l, pm.mpr ⟨⟨by omega, by omega⟩, ⟨by omega, by omega⟩, hk _ _ (by omega)⟩⟩ ⟨l, pm.mpr ⟨⟨by omega, by omega⟩, ⟨by omega, by omega⟩, hk _ _ (by omega)⟩⟩ sound
  cases w
  · exact lss 1 rfl fun x y q => decide_eq_true (by omega)
  · exact lss 0 rfl fun x y q => decide_eq_true (by omega)
  · by_cases c : max l u ≤ min h v
    · have eg : guardS .eq (some (some l, some h)) (some (some u, some v)) = (some (some (max l u), some (min h v)), some (some (max l u), some (min h v))) := by
        show (meetS _ _, meetS _ _) = _
        have : meetS (some (some l, some h)) (some (some u, some v)) = some (some (max l u), some (min h v)) := by
          simp only [meetS, lowM, highM, leE]
          exact if_pos (decide_eq_true c)
        rw [this]
      refine exact_of (congrArg Prod.fst eg) (congrArg Prod.snd eg) ⟨max l u, pm.mpr ⟨⟨by omega, by omega⟩, ⟨by omega, by omega⟩, decide_eq_true rfl⟩⟩ ⟨min h v, pm.mpr ⟨⟨by omega, by omega⟩, ⟨by omega, by omega⟩, decide_eq_true rfl⟩⟩ ⟨max l u, pm.mpr ⟨⟨by omega, by omega⟩, ⟨by omega, by omega⟩, decide_eq_true rfl⟩⟩ ⟨min h v, pm.mpr ⟨⟨by omega, by omega⟩, ⟨by omega, by omega⟩, decide_eq_true rfl⟩⟩ sound
    · refine none_ ?_
      show (meetS _ _, meetS _ _) = _
      have : meetS (some (some l, some h)) (some (some u, some v)) = none := by
        simp only [meetS, lowM, highM, leE]
        exact if_neg (by simpa using c)
      rw [this]
  · rcases norm_or (withoutS (some (some l, some h)) (some (some u, some v)), withoutS (some (some u, some v)) (some (some l, some h))) with e | ⟨x, y, e1, e2⟩
    · exact none_ e
    · injection e1 with e3 e4
      obtain ⟨p, q, rfl, a1, a2, a3, a4, a5⟩ := wo_exact hlh e3
      obtain ⟨r, s, rfl, b1, b2, b3, b4, b5⟩ := wo_exact huv e4
      have eg : guardS .ne (some (some l, some h)) (some (some u, some v)) = (some (some p, some q), some (some r, some s)) := e2
      have ne : ∀ x y : Int, x ≠ y → letsB .ne x y = true := fun x y z => by simp [letsB, z]
      have wit : ∀ p, l ≤ p → p ≤ h → (u = v → p ≠ u) → ∃ y, (p, y) ∈ pairsS .ne (some (some l, some h)) (some (some u, some v)) := fun p h1 h2 h3 => by
        by_cases c : u = v
        · exact ⟨u, pm.mpr ⟨⟨h1, h2⟩, ⟨by omega, by omega⟩, ne _ _ (h3 c)⟩⟩
        · by_cases c2 : p = u
          · exact ⟨v, pm.mpr ⟨⟨h1, h2⟩, ⟨by omega, by omega⟩, ne _ _ (by omega)⟩⟩
          · exact ⟨u, pm.mpr ⟨⟨h1, h2⟩, ⟨by omega, by omega⟩, ne _ _ c2⟩⟩
      have wit2 : ∀ r, u ≤ r → r ≤ v → (l = h → r ≠ l) → ∃ x, (x, r) ∈ pairsS .ne (some (some l, some h)) (some (some u, some v)) := fun r h1 h2 h3 => by
        by_cases c : l = h
        · exact ⟨l, pm.mpr ⟨⟨by omega, by omega⟩, ⟨h1, h2⟩, ne _ _ fun z => h3 c z.symm⟩⟩
        · by_cases c2 : r = l
          · exact ⟨h, pm.mpr ⟨⟨by omega, by omega⟩, ⟨h1, h2⟩, ne _ _ (by omega)⟩⟩
          · exact ⟨l, pm.mpr ⟨⟨by omega, by omega⟩, ⟨h1, h2⟩, ne _ _ fun z => c2 z.symm⟩⟩
      exact exact_of (congrArg Prod.fst eg) (congrArg Prod.snd eg) (wit p a1 a2 fun z => (a5 z).1) (wit q a3 a4 fun z => (a5 z).2) (wit2 r b1 b2 fun z => (b5 z).1) (wit2 s b3 b4 fun z => (b5 z).2) sound
/-! ### the checks -/
section
variable {gu sa al lg lt ho le : Fn}
theorem gd_ePr (k : Nat) (p : SS × SS) : gd (k + 2) (ePr p) = true := gd_tup (k + 1) _ (by simp) (all_cons (gd_eS k _) (all_cons (gd_eS k _) all_nil))
theorem ints_ne {ns : List Int} : gNe (.list (ns.map PyData.int)) (.list []) = some (.bool (!ns.isEmpty)) := by
  cases ns with
  | nil => exact q_neL0
  | cons n ns => exact q_neL1
theorem k28_two_ok (h1 : ∀ w a b, okS a = true → okS b = true → gu [.val (.str (Wd4.s w)), .val (eS a), .val (eS b)] = some (.val (ePr (guardS w a b)), [])) (hs : SameOk 3 sa) (h2 : ∀ a, al [.val (eS a)] = some (.fresh ((allS a).map PyData.int), []))
    (h3 : ∀ w a b, lg [.val (.str (Wd4.s w)), .val (eS a), .val (eS b)] = some (.val (ePr (guardS w a b)), [])) (h4 : ∀ w a b, lt [.val (.str (Wd4.s w)), .val (eS a), .val (eS b)] = some (.val (ePr (hullS ((pairsS w a b).map Prod.fst), hullS ((pairsS w a b).map Prod.snd))), []))
    (w : Wd4) {a b : SS} (ha : okS a = true) (hb : okS b = true) : k__law_two_right_v5 gu sa al lg lt [.val (.str w.s), .val (eS a), .val (eS b)] = some (.val (.bool true), []) := by
  have s1 := hs (.tuple [ePr (guardS w a b), ePr (guardS w a b)]) (gd_tup 2 _ (by simp) (all_cons (gd_ePr 0 _) (all_cons (gd_ePr 0 _) all_nil)))
  have s2 := hs (ePr (guardS w a b)) (gd_ePr 1 _)
  have g2 := h1 w (guardS w a b).1 (guardS w a b).2 (ok_guard w ha hb).1 (ok_guard w ha hb).2
  rw [guard_idem] at g2
  have i0 : gItem (ePr (guardS w a b)) (.int 0) = some (eS (guardS w a b).1) := q_at0
  have i1 : gItem (ePr (guardS w a b)) (.int 1) = some (eS (guardS w a b).2) := q_at1
  cases c1 : (allS a).isEmpty with
  | true =>
    dsimp! only [k__law_two_right_v5, k__law_two_right_v5_b, h1 w a b ha hb, h2, h3, s1, s2, ints_ne, c1, g2, i0, i1]
  | false =>
    cases c2 : (allS b).isEmpty with
    | true =>
      dsimp! only [k__law_two_right_v5, k__law_two_right_v5_b, h1 w a b ha hb, h2, h3, s1, s2, ints_ne, c1, c2, g2, i0, i1]
    | false =>
      have e := tried_exact w (a := a) (b := b) (by intro z; rw [z] at c1; cases c1) (by intro z; rw [z] at c2; cases c2)
      have h5 := h4 w a b
      rw [e] at h5
      dsimp! only [k__law_two_right_v5, k__law_two_right_v5_b, h1 w a b ha hb, h2, h3, h5, s1, s2, ints_ne, c1, c2, g2, i0, i1]
theorem k28_held_ok (h0 : ∀ a k, okS a = true → ho [.val (eS a), .val (.int k)] = some (.val (.bool (hasS a k)), [])) (h1 : ∀ w a b, okS a = true → okS b = true → gu [.val (.str (Wd4.s w)), .val (eS a), .val (eS b)] = some (.val (ePr (guardS w a b)), [])) (hs : SameOk 3 sa)
    (hl : ∀ (w : Wd4) (x y : Int), le [.val (.str w.s), .val (.int x), .val (.int y)] = some (.val (.bool (letsB w x y)), [])) (w : Wd4) {a b : SS} (ha : okS a = true) (hb : okS b = true) {x y : Int} (hx : hasS a x = true) (hy : hasS b y = true) :
    k__law_held_right_v2 ho gu sa le [.val (.str w.s), .val (eS a), .val (eS b), .val (.int x), .val (.int y)] = some (.val (.bool true), []) := by
  have s1 := hs (.tuple [.bool true, .bool true]) (gd_tup 2 _ (by simp) (all_cons (gd_bool _ _) (all_cons (gd_bool _ _) all_nil)))
  have i0 : gItem (ePr (guardS w a b)) (.int 0) = some (eS (guardS w a b).1) := q_at0
  have i1 : gItem (ePr (guardS w a b)) (.int 1) = some (eS (guardS w a b).2) := q_at1
  cases c : letsB w x y with
  | false => dsimp! only [k__law_held_right_v2, k__law_held_right_v2_b, hl, c]
  | true =>
    obtain ⟨g1, g2⟩ := has_guard w hx hy c
    dsimp! only [k__law_held_right_v2, k__law_held_right_v2_b, hl, c, h1 w a b ha hb, i0, i1, h0 _ x (ok_guard w ha hb).1, h0 _ y (ok_guard w ha hb).2, g1, g2, s1]
end
end Ev
namespace Ev
local macro_rules
  | `(tactic| simp! only [$as,*]) => `(tactic| simp only [↓x_var, ↓x_C, ↓x_op, ↓x_fz, ↓x_rV, ↓x_B, ↓x_chain, ↓x_tru, ↓x_notT, ↓x_andT, ↓x_orT, ↓x_and, ↓x_or, ↓x_not, ↓x_neg, ↓x_if, ↓x_aNil, ↓x_aVal, ↓x_aSlot, ↓x_aTmp, ↓x_aR, ↓x_call, ↓x_callK, ↓x_dNil, ↓x_dCons, ↓x_tup, ↓x_lst, ↓x_itemN, ↓x_ownItem, ↓x_lenN, ↓x_blt, ↓x_isi, ↓x_list, ↓x_rgL1, ↓x_rgL2, ↓x_iSeq, ↓x_iZip, ↓x_range1, ↓x_range2, ↓x_addR, ↓x_slice, ↓x_partN, ↓x_partS, ↓x_comp, ↓x_skip, ↓x_stuck, ↓x_break, ↓x_cont, ↓x_seq, ↓x_sIf, ↓x_sExpr, ↓x_ret, ↓x_retN, ↓x_move, ↓x_setRv, ↓x_setRf, ↓x_set, ↓x_gN, ↓x_gsNil, ↓x_gsCons, ↓x_gTup, ↓x_gIx, ↓x_setAt, ↓x_asg, ↓x_par, ↓x_sm0, ↓x_smV, ↓x_smF, ↓x_app, ↓x_for, ↓x_for0, ↓x_for1, ↓x_comp0, ↓x_comp1, ↓x_fn, ↓x_iEnum, ↓x_range3, ↓x_comp2, ↓x_compN0, ↓x_compN1, q_addI, q_addT, q_addL, q_subI, q_ltI, q_leI, q_gtI, q_geI, q_isN, q_isNotN, q_eqI, q_neI, q_eqB, q_eqT0, q_eqT1, q_neT0, q_neT1, q_eqL0, q_eqL1, q_neL0, q_neL1, q_int, q_abs, q_min2, q_max2, q_at0, q_at1, q_at2, q_at3, q_ix0, q_ix1, q_ix2, q_sz, q_iteS, q_iteT, q_iteR, q_iteV, q_iteBB, q_iteII, q_iteAnd, q_iteOr, q_iteNot, q_iteCon, q_pa0, q_pa1, q_pa2, q_pa3, q_ow0, q_ow1, q_ow2, q_ow3, q_c0, q_c1, q_c2, q_c3, q_c4, q_c5, q_c6, q_c7, q_c8, q_c9, q_c10, q_c11, q_c12, q_all0, q_all1, q_all2, q_all3, q_inN2, q_inN0, q_02a, q_02b, List.getElem?_cons_zero, List.getElem?_cons_succ, List.set_cons_zero, List.set_cons_succ, wipeE, initE, outsOf, toAv, slotsOf, putOuts, natNodup, List.map_cons, List.map_nil, List.cons_append, List.nil_append, List.append_nil, List.replicate, List.length_cons, List.length_nil, isNone, isiD, seqD, gItem, truD, zipOf, zipD, pick, List.contains_nil, List.contains_cons, eq_self, if_true, if_false, Bool.false_eq_true, Bool.true_eq_false, Bool.not_true, Bool.not_false, reduceIte, decide_true, decide_false, Nat.reduceAdd, Nat.reduceSub, Nat.zero_add, Nat.add_zero, and_self, true_and, and_true, Bool.and_true, Bool.true_and, Bool.or_false, Bool.false_or, Bool.or_true, Bool.true_or, Bool.and_false, Bool.false_and, Bool.or_self, Bool.and_self, Nat.sub_self, Option.map_some, Option.map_none, Nat.reduceBEq, Bool.not_eq_true, beq_self_eq_true, Nat.reduceLeDiff, Nat.reduceLT, Nat.reduceEqDiff, List.filterMap_cons, List.filterMap_nil, $as,*])
open PySem PySem.Spec PyProof.Rows L2
theorem k_great_pos {t : Fn} (T : Tk t) : Gp (k__law_great t) := great_pos T
/-- a number drawn from a stretch -/
def Inn (g : Fn) : Prop := ∀ (b : Nat) (ds : List D) (l r : EE), Src (b + 8) ds → okS (some (l, r)) = true → ∃ (i : Int) (ds' : List D), g [.own ds, .val (eS (some (l, r)))] = some (.val (.int i), [ds']) ∧ hasS (some (l, r)) i = true ∧ Src b ds'
theorem k_in_ok {t p gr nu : Fn} (T : Tk t) (P : Pk p) (G : Gp gr) (N : Nm 7 (2 ^ 110) nu) : Inn (k__law_in t p gr nu) := by
  intro b ds l r h ho
  by_cases c : l = none ∧ r = none
  · obtain ⟨rfl, rfl⟩ := c
    obtain ⟨v, d1, e1, -, -, s1⟩ := N (b + 1) ds h
    refine ⟨v, d1, ?_, rfl, s1.mono (by omega)⟩
    simp! only [k__law_in, k__law_in_b, eS_s, eE_n, e1]
  obtain ⟨v1, d1, e1, p1, q1, s1⟩ := T (b + 7) ds 400 h (by decide) (by decide)
  obtain ⟨v2, d2, e2, p2, q2, s2⟩ := G (b + 2) d1 s1
  obtain ⟨-, ⟨x, hx, d3, e3, s3⟩⟩ := P (b + 1) d2 [.int 0, .int 1, .int 2, .int v1, .int v2] s2 (by simp) (by simp)
  have hx2 : ∃ i : Int, x = .int i ∧ 0 ≤ i := by
    simp only [List.mem_cons, List.not_mem_nil, or_false] at hx
    rcases hx with rfl | rfl | rfl | rfl | rfl
    · exact ⟨0, rfl, by omega⟩
    · exact ⟨1, rfl, by omega⟩
    · exact ⟨2, rfl, by omega⟩
    · exact ⟨v1, rfl, p1⟩
    · exact ⟨v2, rfl, p2⟩
  obtain ⟨i, rfl, hi⟩ := hx2
  rcases r with _ | r
  · rcases l with _ | l
    · exact absurd ⟨rfl, rfl⟩ c
    · refine ⟨l + i, d3, ?_, ?_, s3.mono (by omega)⟩
      · simp! only [k__law_in, k__law_in_b, eS_s, eE_n, eE_s, e1, e2, e3]
      · simp [hasS, leE]; omega
  rcases l with _ | l
  · refine ⟨r - i, d3, ?_, ?_, s3.mono (by omega)⟩
    · simp! only [k__law_in, k__law_in_b, eS_s, eE_n, eE_s, e1, e2, e3]
    · simp [hasS, leE]; omega
  have hlr : l ≤ r := of_decide_eq_true ho
  obtain ⟨v4, d4, e4, p4, q4, s4⟩ := T b d3 2 s3 (by decide) (by decide)
  have hp : 0 < r - l + 1 := by omega
  have m1 := Int.emod_nonneg i (b := r - l + 1) (by omega)
  have m2 := Int.emod_lt_of_pos i hp
  by_cases c4 : v4 = 0
  · refine ⟨l + i % (r - l + 1), d4, ?_, ?_, s4⟩
    · simp! only [k__law_in, k__law_in_b, eS_s, eE_n, eE_s, e1, e2, e3, e4, q_modI hp, c4]
    · simp [hasS, leE]; omega
  · refine ⟨r - i % (r - l + 1), d4, ?_, ?_, s4⟩
    · simp! only [k__law_in, k__law_in_b, eS_s, eE_n, eE_s, e1, e2, e3, e4, q_modI hp, c4]
    · simp [hasS, leE]; omega
theorem q_all4T : gAll [.list [.bool true, .bool true, .bool true, .bool true]] = some (.bool true) := rfl
theorem range4 : rangeD 0 (4 - 0 : Int).toNat = [.int 0, .int 1, .int 2, .int 3] := by rfl
theorem k28_right_ok {st nr inn tw hd : Fn} (S : St 9 (2 ^ 111) st) (R : Nr 10 nr) (I : Inn inn) (T : ∀ (w : Wd4) a b, okS a = true → okS b = true → tw [.val (.str w.s), .val (eS a), .val (eS b)] = some (.val (.bool true), []))
    (H : ∀ (w : Wd4) a b x y, okS a = true → okS b = true → hasS a x = true → hasS b y = true → hd [.val (.str w.s), .val (eS a), .val (eS b), .val (.int x), .val (.int y)] = some (.val (.bool true), [])) : Rg (k__law_right_v6 st nr inn tw hd) := by
  intro ds h
  obtain ⟨a, d1, e1, oa, za, s1⟩ := S 99999000 ds (h.mono (by decide))
  obtain ⟨es1, n1, q1, w1⟩ := eS_map a
  obtain ⟨b, d2, e2, ob, zb, s2⟩ := R 99998000 d1 es1 (2 ^ 111) (s1.mono (by decide)) (w1 _ za) (by decide) (by omega)
  rw [← q1] at e2
  have t1 := T .lt a b oa ob
  have t2 := T .le a b oa ob
  have t3 := T .eq a b oa ob
  have t4 := T .ne a b oa ob
  have t5 := T .lt b a ob oa
  have t6 := T .le b a ob oa
  have t7 := T .eq b a ob oa
  have t8 := T .ne b a ob oa
  simp only [Wd4.s] at t1 t2 t3 t4 t5 t6 t7 t8
  have h0 : ∀ z : SS, gEq (eS z) (.tuple []) = some (.bool (decide (z = none))) := fun z => q_eqS z none
  have hx := h0 a
  have hy := h0 b
  rcases a with _ | ⟨a1, a2⟩
  · refine ⟨d2, ?_⟩
    simp! only [k__law_right_v6, k__law_right_v6_b, e1, e2, t1, t2, t3, t4, t5, t6, t7, t8, hx]
  rcases b with _ | ⟨b1, b2⟩
  · refine ⟨d2, ?_⟩
    simp! only [k__law_right_v6, k__law_right_v6_b, e1, e2, t1, t2, t3, t4, t5, t6, t7, t8, hx, hy, reduceCtorEq]
  generalize ha : (some (a1, a2) : SS) = a at *
  generalize hb : (some (b1, b2) : SS) = b at *
  have na : ¬ a = none := by rw [← ha]; simp
  have nb : ¬ b = none := by rw [← hb]; simp
  obtain ⟨e, he, d3, s3, s4, s5, s6, rfl, f3, f4, f5, f6, hs⟩ := forL_cnt (g := gN 4) (b := (sSeq (sAsg (eTup (dCons (eFz (eCall inn (aSlot 0 (aVal (eVar 1) aNil)))) (dCons (eFz (eCall inn (aSlot 0 (aVal (eVar 2) aNil)))) dNil))) (gTup 2 (gsCons (gN 5) (gsCons (gN 6) gsNil)))) (sSeq (sIf (eNotT (eTru (eBlt gAll (dCons (eFz (eComp (iSeq (eTup (dCons (eC (.str "<")) (dCons (eC (.str "<=")) (dCons (eC (.str "==")) (dCons (eC (.str "!=")) dNil)))))) (gN 3) (fun env => some (true, env)) (eFz (eCall hd (aVal (eVar 3) (aVal (eVar 1) (aVal (eVar 2) (aVal (eVar 5) (aVal (eVar 6) aNil))))))) [3])) dNil)))) (sRet (rV (eC (.bool false)))) sSkip) (sIf (eNotT (eTru (eBlt gAll (dCons (eFz (eComp (iSeq (eTup (dCons (eC (.str "<")) (dCons (eC (.str "<=")) (dCons (eC (.str "==")) (dCons (eC (.str "!=")) dNil)))))) (gN 3) (fun env => some (true, env)) (eFz (eCall hd (aVal (eVar 3) (aVal (eVar 2) (aVal (eVar 1) (aVal (eVar 6) (aVal (eVar 5) aNil))))))) [3])) dNil)))) (sRet (rV (eC (.bool false)))) sSkip))))
    (I := fun n e => ∃ (d3 : List D) (s3 s4 s5 s6 : Sl), e = [.par d3, .val (eS a), .val (eS b), s3, s4, s5, s6] ∧ Fr s3 ∧ Fr s4 ∧ Fr s5 ∧ Fr s6 ∧ Src (16 * (4 - n)) d3) (rangeD 0 (4 - 0 : Int).toNat) 0 [.par d2, .val (eS a), .val (eS b), .val (.str "!="), .no, .no, .no]
    ⟨d2, _, _, _, _, rfl, rfl, rfl, rfl, rfl, s2.mono (by decide)⟩ (by
      rintro d hd m e hm ⟨d3, s3, s4, s5, s6, rfl, f3, f4, f5, f6, hs⟩
      have hm4 : m < 4 := hm
      obtain ⟨x, d4, e4, hx4, g4⟩ := I (16 * (4 - (m + 1)) + 8) d3 a1 a2 (by rw [show 16 * (4 - (m + 1)) + 8 + 8 = 16 * (4 - m) by omega]; exact hs) (by rw [ha]; exact oa)
      obtain ⟨y, d5, e5, hy5, g5⟩ := I (16 * (4 - (m + 1))) d4 b1 b2 g4 (by rw [hb]; exact ob)
      rw [ha] at e4 hx4
      rw [hb] at e5 hy5
      have u1 := H .lt a b x y oa ob hx4 hy5
      have u2 := H .le a b x y oa ob hx4 hy5
      have u3 := H .eq a b x y oa ob hx4 hy5
      have u4 := H .ne a b x y oa ob hx4 hy5
      have u5 := H .lt b a y x ob oa hy5 hx4
      have u6 := H .le b a y x ob oa hy5 hx4
      have u7 := H .eq b a y x ob oa hy5 hx4
      have u8 := H .ne b a y x ob oa hy5 hx4
      simp only [Wd4.s] at u1 u2 u3 u4 u5 u6 u7 u8
      refine ⟨[.par d3, .val (eS a), .val (eS b), s3, .val d, s5, s6], [.par d5, .val (eS a), .val (eS b), .no, .val d, .val (.int x), .val (.int y)], ?_, ?_, d5, _, _, _, _, rfl, rfl, rfl, rfl, rfl, g5⟩
      · simp! only [show isPar s4 = false from f4]
      · simp! only [show isPar s5 = false from f5, show isPar s6 = false from f6, e4, e5, u1, u2, u3, u4, u5, u6, u7, u8, q_all4T])
  refine ⟨d3, ?_⟩
  simp! only [k__law_right_v6, k__law_right_v6_b, e1, e2, t1, t2, t3, t4, t5, t6, t7, t8, hx, hy, na, nb, he]
end Ev
namespace Ev
local macro_rules
  | `(tactic| simp! only [$as,*]) => `(tactic| simp only [↓x_var, ↓x_C, ↓x_op, ↓x_fz, ↓x_rV, ↓x_B, ↓x_chain, ↓x_tru, ↓x_notT, ↓x_andT, ↓x_orT, ↓x_and, ↓x_or, ↓x_not, ↓x_neg, ↓x_if, ↓x_aNil, ↓x_aVal, ↓x_aSlot, ↓x_aTmp, ↓x_aR, ↓x_call, ↓x_callK, ↓x_dNil, ↓x_dCons, ↓x_tup, ↓x_lst, ↓x_itemN, ↓x_ownItem, ↓x_lenN, ↓x_blt, ↓x_isi, ↓x_list, ↓x_rgL1, ↓x_rgL2, ↓x_iSeq, ↓x_iZip, ↓x_range1, ↓x_range2, ↓x_addR, ↓x_slice, ↓x_partN, ↓x_partS, ↓x_comp, ↓x_skip, ↓x_stuck, ↓x_break, ↓x_cont, ↓x_seq, ↓x_sIf, ↓x_sExpr, ↓x_ret, ↓x_retN, ↓x_move, ↓x_setRv, ↓x_setRf, ↓x_set, ↓x_gN, ↓x_gsNil, ↓x_gsCons, ↓x_gTup, ↓x_gIx, ↓x_setAt, ↓x_asg, ↓x_par, ↓x_sm0, ↓x_smV, ↓x_smF, ↓x_app, ↓x_for, ↓x_for0, ↓x_for1, ↓x_comp0, ↓x_comp1, ↓x_fn, ↓x_iEnum, ↓x_range3, ↓x_comp2, ↓x_compN0, ↓x_compN1, q_addI, q_addT, q_addL, q_subI, q_ltI, q_leI, q_gtI, q_geI, q_isN, q_isNotN, q_eqI, q_neI, q_eqB, q_eqT0, q_eqT1, q_neT0, q_neT1, q_eqL0, q_eqL1, q_neL0, q_neL1, q_int, q_abs, q_min2, q_max2, q_at0, q_at1, q_at2, q_at3, q_ix0, q_ix1, q_ix2, q_sz, q_iteS, q_iteT, q_iteR, q_iteV, q_iteBB, q_iteII, q_iteAnd, q_iteOr, q_iteNot, q_iteCon, q_pa0, q_pa1, q_pa2, q_pa3, q_ow0, q_ow1, q_ow2, q_ow3, q_c0, q_c1, q_c2, q_c3, q_c4, q_c5, q_c6, q_c7, q_c8, q_c9, q_c10, q_c11, q_c12, q_all0, q_all1, q_all2, q_all3, q_inN2, q_inN0, q_02a, q_02b, List.getElem?_cons_zero, List.getElem?_cons_succ, List.set_cons_zero, List.set_cons_succ, wipeE, initE, outsOf, toAv, slotsOf, putOuts, natNodup, List.map_cons, List.map_nil, List.cons_append, List.nil_append, List.append_nil, List.replicate, List.length_cons, List.length_nil, isNone, isiD, seqD, gItem, truD, zipOf, zipD, pick, List.contains_nil, List.contains_cons, eq_self, if_true, if_false, Bool.false_eq_true, Bool.true_eq_false, Bool.not_true, Bool.not_false, reduceIte, decide_true, decide_false, Nat.reduceAdd, Nat.reduceSub, Nat.zero_add, Nat.add_zero, and_self, true_and, and_true, Bool.and_true, Bool.true_and, Bool.or_false, Bool.false_or, Bool.or_true, Bool.true_or, Bool.and_false, Bool.false_and, Bool.or_self, Bool.and_self, Nat.sub_self, Option.map_some, Option.map_none, Nat.reduceBEq, Bool.not_eq_true, beq_self_eq_true, Nat.reduceLeDiff, Nat.reduceLT, Nat.reduceEqDiff, List.filterMap_cons, List.filterMap_nil, $as,*])
open PySem PySem.Spec PyProof.Rows L2
/-! ## k27: modulo -/
def negE (x : EE) : EE := x.map fun i => -i
def backS : SS → SS
  | none => none
  | some (l, h) => some (negE h, negE l)
def modByE (l r : EE) (n : Int) : EE × EE := match l, r with
  | some x, some y => if x / n = y / n then (some (x % n), some (y % n)) else (some 0, some (n - 1))
  | _, _ => (some 0, some (n - 1))
def ltE (x : EE) (k : Int) : Bool := match x with
  | none => false
  | some i => decide (i < k)
def modAb (a b : SS) : SS := match a, b with
  | some (l, r), some (some n, o2) => if some n = o2 then some (modByE l r n) else if (l.isNone || ltE l 0) = true then some (some 0, addE o2 (-1)) else if ltE r n = true then some (l, r) else some (some 0, highM (addE o2 (-1)) r)
  | _, _ => none
def aboveS (a : SS) : SS := meetS a (some (some 1, none))
def modS (a b : SS) : SS := joinS (modAb a (aboveS b)) (backS (modAb (backS a) (aboveS (backS b))))
theorem above_low (b : SS) : aboveS b = none ∨ ∃ n o2, aboveS b = some (some n, o2) ∧ 1 ≤ n := by
  rcases b with _ | ⟨b1, b2⟩
  · exact .inl rfl
  · simp only [aboveS, meetS]
    split
    · right
      rcases b1 with _ | b1
      · exact ⟨1, _, rfl, by omega⟩
      · exact ⟨max b1 1, _, rfl, by omega⟩
    · exact .inl rfl
section
variable {f g h w p q : Fn}
theorem k_end_back_ok (x : EE) : k_end_back [.val (eE x)] = some (.val (eE (negE x)), []) := by
  cases x <;> rfl
theorem k_back_ok (hf : ∀ x, f [.val (eE x)] = some (.val (eE (negE x)), [])) (a : SS) : k_back_stretch f [.val (eS a)] = some (.val (eS (backS a)), []) := by
  rcases a with _ | ⟨l, r⟩
  · simp! only [k_back_stretch, k_back_stretch_b, eS_n, backS]
  · simp! only [k_back_stretch, k_back_stretch_b, eS_s, backS, hf]
theorem k_above_ok (hm : ∀ a b, f [.val (eS a), .val (eS b)] = some (.val (eS (meetS a b)), [])) (a : SS) : k_above_nought f [.val (eS a)] = some (.val (eS (aboveS a)), []) := by
  have m := hm a (some (some 1, none))
  simp only [eS_s, eE_n, eE_s] at m
  simp! only [k_above_nought, k_above_nought_b, m, aboveS]
theorem k_below_ok (hb : ∀ a, f [.val (eS a)] = some (.val (eS (backS a)), [])) (ha : ∀ a, g [.val (eS a)] = some (.val (eS (aboveS a)), [])) (a : SS) : k_below_nought f g [.val (eS a)] = some (.val (eS (aboveS (backS a))), []) := by
  simp! only [k_below_nought, k_below_nought_b, ha, hb]
theorem k_modBy_ok (l r : EE) {n : Int} (hn : 0 < n) (hs : n.natAbs.log2 < 9000) : k_modulo_by_one [.val (eS (some (l, r))), .val (.int n)] = some (.val (eS (some (modByE l r n))), []) := by
  rcases l with _ | l <;> rcases r with _ | r
  · simp! only [k_modulo_by_one, k_modulo_by_one_b, eS_s, eE_n, eE_s, modByE]
  · simp! only [k_modulo_by_one, k_modulo_by_one_b, eS_s, eE_n, eE_s, modByE]
  · simp! only [k_modulo_by_one, k_modulo_by_one_b, eS_s, eE_n, eE_s, modByE]
  · by_cases c : l / n = r / n
    · simp! only [k_modulo_by_one, k_modulo_by_one_b, eS_s, eE_n, eE_s, modByE, q_fdivI hn hs, q_modI hn, c]
    · simp! only [k_modulo_by_one, k_modulo_by_one_b, eS_s, eE_n, eE_s, modByE, q_fdivI hn hs, q_modI hn, c]
theorem k_lesser_ok (hh : ∀ a b, f [.val (eE a), .val (eE b)] = some (.val (.bool (highW a b)), [])) (a b : EE) : k_lesser_end f [.val (eE a), .val (eE b)] = some (.val (eE (highM a b)), []) := by
  rw [← high_meet]
  cases c : highW a b <;> simp! only [k_lesser_end, k_lesser_end_b, hh, c]
/-- numbers that may divide -/
def dvS (b : SS) : Prop := b = none ∨ ∃ n o2, b = some (some n, o2) ∧ 1 ≤ n ∧ n.natAbs.log2 < 9000
theorem k_modAb_ok (hb : ∀ (l r : EE) (n : Int), 0 < n → n.natAbs.log2 < 9000 → f [.val (eS (some (l, r))), .val (.int n)] = some (.val (eS (some (modByE l r n))), [])) (hl : ∀ a b, g [.val (eE a), .val (eE b)] = some (.val (eE (highM a b)), [])) (a : SS) {b : SS} (hd : dvS b) :
    k_modulo_above f g [.val (eS a), .val (eS b)] = some (.val (eS (modAb a b)), []) := by
  rcases hd with rfl | ⟨n, o2, rfl, hn, hs⟩
  · rcases a with _ | ⟨l, r⟩ <;> simp! only [k_modulo_above, k_modulo_above_b, eS_n, eS_s, modAb]
  rcases a with _ | ⟨l, r⟩
  · simp! only [k_modulo_above, k_modulo_above_b, eS_n, eS_s, modAb]
  have e1 : gEq (.int n) (eE o2) = some (.bool (decide (some n = o2))) := q_eqE (some n) o2
  have b1 := hb l r n (by omega) hs
  simp only [eS_s] at b1
  by_cases c : some n = o2
  · subst c
    simp only [eE_s, eq_self, decide_true] at e1
    simp! only [k_modulo_above, k_modulo_above_b, eS_s, eE_s, modAb, e1]
    simp only [b1, eS_s, ↓x_var, ↓x_C, ↓x_op, ↓x_fz, ↓x_rV, ↓x_B, ↓x_chain, ↓x_tru, ↓x_notT, ↓x_andT, ↓x_orT, ↓x_and, ↓x_or, ↓x_not, ↓x_neg, ↓x_if, ↓x_aNil, ↓x_aVal, ↓x_aSlot, ↓x_aTmp, ↓x_aR, ↓x_call, ↓x_callK, ↓x_dNil, ↓x_dCons, ↓x_tup, ↓x_lst, ↓x_itemN, ↓x_ownItem, ↓x_lenN, ↓x_blt, ↓x_isi, ↓x_list, ↓x_rgL1, ↓x_rgL2, ↓x_iSeq, ↓x_iZip, ↓x_range1, ↓x_range2, ↓x_addR, ↓x_slice, ↓x_partN, ↓x_partS, ↓x_comp, ↓x_skip, ↓x_stuck, ↓x_break, ↓x_cont, ↓x_seq, ↓x_sIf, ↓x_sExpr, ↓x_ret, ↓x_retN, ↓x_move, ↓x_setRv, ↓x_setRf, ↓x_set, ↓x_gN, ↓x_gsNil, ↓x_gsCons, ↓x_gTup, ↓x_gIx, ↓x_setAt, ↓x_asg, ↓x_par, ↓x_sm0, ↓x_smV, ↓x_smF, ↓x_app, ↓x_for, ↓x_for0, ↓x_for1, ↓x_comp0, ↓x_comp1, ↓x_fn, ↓x_iEnum, ↓x_range3, ↓x_comp2, ↓x_compN0, ↓x_compN1, q_addI, q_addT, q_addL, q_subI, q_ltI, q_leI, q_gtI, q_geI, q_isN, q_isNotN, q_eqI, q_neI, q_eqB, q_eqT0, q_eqT1, q_neT0, q_neT1, q_eqL0, q_eqL1, q_neL0, q_neL1, q_int, q_abs, q_min2, q_max2, q_at0, q_at1, q_at2, q_at3, q_ix0, q_ix1, q_ix2, q_sz, q_iteS, q_iteT, q_iteR, q_iteV, q_iteBB, q_iteII, q_iteAnd, q_iteOr, q_iteNot, q_iteCon, q_pa0, q_pa1, q_pa2, q_pa3, q_ow0, q_ow1, q_ow2, q_ow3, q_c0, q_c1, q_c2, q_c3, q_c4, q_c5, q_c6, q_c7, q_c8, q_c9, q_c10, q_c11, q_c12, q_all0, q_all1, q_all2, q_all3, q_inN2, q_inN0, q_02a, q_02b, List.getElem?_cons_zero, List.getElem?_cons_succ, List.set_cons_zero, List.set_cons_succ, wipeE, initE, outsOf, toAv, slotsOf, putOuts, natNodup, List.map_cons, List.map_nil, List.cons_append, List.nil_append, List.append_nil, List.replicate, List.length_cons, List.length_nil, isNone, isiD, seqD, gItem, truD, zipOf, zipD, pick, List.contains_nil, List.contains_cons, eq_self, if_true, if_false, Bool.false_eq_true, Bool.true_eq_false, Bool.not_true, Bool.not_false, reduceIte, decide_true, decide_false, Nat.reduceAdd, Nat.reduceSub, Nat.zero_add, Nat.add_zero, and_self, true_and, and_true, Bool.and_true, Bool.true_and, Bool.or_false, Bool.false_or, Bool.or_true, Bool.true_or, Bool.and_false, Bool.false_and, Bool.or_self, Bool.and_self, Nat.sub_self, Option.map_some, Option.map_none, Nat.reduceBEq, Bool.not_eq_true, beq_self_eq_true, Nat.reduceLeDiff, Nat.reduceLT, Nat.reduceEqDiff, List.filterMap_cons, List.filterMap_nil]
  rcases o2 with _ | m
  · simp only [eE_n] at e1
    rcases l with _ | l
    · simp! only [k_modulo_above, k_modulo_above_b, eS_s, eE_s, eE_n, modAb, e1, c, addE, Option.map_none, Option.isNone_none]
    · by_cases c2 : l < 0
      · simp! only [k_modulo_above, k_modulo_above_b, eS_s, eE_s, eE_n, modAb, e1, c, addE, Option.map_none, Option.isNone_some, ltE, c2]
      · rcases r with _ | r
        · have h1 := hl none none
          simp only [eE_n] at h1
          simp! only [k_modulo_above, k_modulo_above_b, eS_s, eE_s, eE_n, modAb, e1, c, addE, Option.map_none, Option.isNone_some, ltE, c2, h1]
        · have h1 := hl none (some r)
          simp only [eE_n, eE_s] at h1
          by_cases c3 : r < n <;> simp! only [k_modulo_above, k_modulo_above_b, eS_s, eE_s, eE_n, modAb, e1, c, addE, Option.map_none, Option.isNone_some, ltE, c2, c3, h1]
  · simp only [eE_s] at e1
    rcases l with _ | l
    · simp! only [k_modulo_above, k_modulo_above_b, eS_s, eE_s, eE_n, modAb, e1, c, addE, Option.map_some, Option.isNone_none, Int.sub_eq_add_neg]
    · by_cases c2 : l < 0
      · simp! only [k_modulo_above, k_modulo_above_b, eS_s, eE_s, eE_n, modAb, e1, c, addE, Option.map_some, Option.isNone_some, ltE, c2, Int.sub_eq_add_neg]
      · rcases r with _ | r
        · have h1 := hl (some (m + -1)) none
          simp only [eE_n, eE_s] at h1
          simp! only [k_modulo_above, k_modulo_above_b, eS_s, eE_s, eE_n, modAb, e1, c, addE, Option.map_some, Option.isNone_some, ltE, c2, h1, Int.sub_eq_add_neg]
        · have h1 := hl (some (m + -1)) (some r)
          simp only [eE_n, eE_s] at h1
          by_cases c3 : r < n <;> simp! only [k_modulo_above, k_modulo_above_b, eS_s, eE_s, eE_n, modAb, e1, c, addE, Option.map_some, Option.isNone_some, ltE, c2, c3, h1, Int.sub_eq_add_neg]
theorem k_modS_ok {f1 f2 f3 f4 f5 : Fn} (h1 : ∀ a b, f1 [.val (eS a), .val (eS b)] = some (.val (eS (joinS a b)), [])) (h2 : ∀ a, f2 [.val (eS a)] = some (.val (eS (backS a)), [])) (h3 : ∀ a, f3 [.val (eS a)] = some (.val (eS (aboveS a)), [])) (h4 : ∀ a, f4 [.val (eS a)] = some (.val (eS (aboveS (backS a))), []))
    (h5 : ∀ a b, dvS b → f5 [.val (eS a), .val (eS b)] = some (.val (eS (modAb a b)), [])) (a : SS) {b : SS} (d1 : dvS (aboveS b)) (d2 : dvS (aboveS (backS b))) : k_modulo_stretch f1 f2 f3 f4 f5 [.val (eS a), .val (eS b)] = some (.val (eS (modS a b)), []) := by
  simp! only [k_modulo_stretch, k_modulo_stretch_b, h1, h2, h3, h4, h5 _ _ d1, h5 _ _ d2, modS]
end
end Ev
namespace Ev
local macro_rules
  | `(tactic| simp! only [$as,*]) => `(tactic| simp only [↓x_var, ↓x_C, ↓x_op, ↓x_fz, ↓x_rV, ↓x_B, ↓x_chain, ↓x_tru, ↓x_notT, ↓x_andT, ↓x_orT, ↓x_and, ↓x_or, ↓x_not, ↓x_neg, ↓x_if, ↓x_aNil, ↓x_aVal, ↓x_aSlot, ↓x_aTmp, ↓x_aR, ↓x_call, ↓x_callK, ↓x_dNil, ↓x_dCons, ↓x_tup, ↓x_lst, ↓x_itemN, ↓x_ownItem, ↓x_lenN, ↓x_blt, ↓x_isi, ↓x_list, ↓x_rgL1, ↓x_rgL2, ↓x_iSeq, ↓x_iZip, ↓x_range1, ↓x_range2, ↓x_addR, ↓x_slice, ↓x_partN, ↓x_partS, ↓x_comp, ↓x_skip, ↓x_stuck, ↓x_break, ↓x_cont, ↓x_seq, ↓x_sIf, ↓x_sExpr, ↓x_ret, ↓x_retN, ↓x_move, ↓x_setRv, ↓x_setRf, ↓x_set, ↓x_gN, ↓x_gsNil, ↓x_gsCons, ↓x_gTup, ↓x_gIx, ↓x_setAt, ↓x_asg, ↓x_par, ↓x_sm0, ↓x_smV, ↓x_smF, ↓x_app, ↓x_for, ↓x_for0, ↓x_for1, ↓x_comp0, ↓x_comp1, ↓x_fn, ↓x_iEnum, ↓x_range3, ↓x_comp2, ↓x_compN0, ↓x_compN1, q_addI, q_addT, q_addL, q_subI, q_ltI, q_leI, q_gtI, q_geI, q_isN, q_isNotN, q_eqI, q_neI, q_eqB, q_eqT0, q_eqT1, q_neT0, q_neT1, q_eqL0, q_eqL1, q_neL0, q_neL1, q_int, q_abs, q_min2, q_max2, q_at0, q_at1, q_at2, q_at3, q_ix0, q_ix1, q_ix2, q_sz, q_iteS, q_iteT, q_iteR, q_iteV, q_iteBB, q_iteII, q_iteAnd, q_iteOr, q_iteNot, q_iteCon, q_pa0, q_pa1, q_pa2, q_pa3, q_ow0, q_ow1, q_ow2, q_ow3, q_c0, q_c1, q_c2, q_c3, q_c4, q_c5, q_c6, q_c7, q_c8, q_c9, q_c10, q_c11, q_c12, q_all0, q_all1, q_all2, q_all3, q_inN2, q_inN0, q_02a, q_02b, List.getElem?_cons_zero, List.getElem?_cons_succ, List.set_cons_zero, List.set_cons_succ, wipeE, initE, outsOf, toAv, slotsOf, putOuts, natNodup, List.map_cons, List.map_nil, List.cons_append, List.nil_append, List.append_nil, List.replicate, List.length_cons, List.length_nil, isNone, isiD, seqD, gItem, truD, zipOf, zipD, pick, List.contains_nil, List.contains_cons, eq_self, if_true, if_false, Bool.false_eq_true, Bool.true_eq_false, Bool.not_true, Bool.not_false, reduceIte, decide_true, decide_false, Nat.reduceAdd, Nat.reduceSub, Nat.zero_add, Nat.add_zero, and_self, true_and, and_true, Bool.and_true, Bool.true_and, Bool.or_false, Bool.false_or, Bool.or_true, Bool.true_or, Bool.and_false, Bool.false_and, Bool.or_self, Bool.and_self, Nat.sub_self, Option.map_some, Option.map_none, Nat.reduceBEq, Bool.not_eq_true, beq_self_eq_true, Nat.reduceLeDiff, Nat.reduceLT, Nat.reduceEqDiff, List.filterMap_cons, List.filterMap_nil, $as,*])
open PySem PySem.Spec PyProof.Rows L2
section
variable {f g h w p q : Fn}
theorem k_turn_ok (a : SS) : k__law_turn [.val (eS a)] = some (.val (eS (backS a)), []) := by
  rcases a with _ | ⟨_ | l, _ | r⟩ <;> simp! only [k__law_turn, k__law_turn_b, eS_n, eS_s, eE_n, eE_s, backS, negE, Option.map_none, Option.map_some, Int.zero_sub]
theorem k_leftUp_ok (l r : EE) {b : SS} (hd : dvS b) : k__law_left_up [.val (eS (some (l, r))), .val (eS b)] = some (.val (eS (modAb (some (l, r)) b)), []) := by
  rcases hd with rfl | ⟨n, o2, rfl, hn, hs⟩
  · simp! only [k__law_left_up, k__law_left_up_b, eS_n, eS_s, modAb]
  have e1 : gEq (.int n) (eE o2) = some (.bool (decide (some n = o2))) := q_eqE (some n) o2
  have hn0 : 0 < n := by omega
  by_cases c : some n = o2
  · subst c
    simp only [eE_s, eq_self, decide_true] at e1
    rcases l with _ | l <;> rcases r with _ | r
    · simp! only [k__law_left_up, k__law_left_up_b, eS_s, eE_s, eE_n, modAb, modByE, e1]
    · simp! only [k__law_left_up, k__law_left_up_b, eS_s, eE_s, eE_n, modAb, modByE, e1]
    · simp! only [k__law_left_up, k__law_left_up_b, eS_s, eE_s, eE_n, modAb, modByE, e1]
    · by_cases c2 : l / n = r / n
      · simp! only [k__law_left_up, k__law_left_up_b, eS_s, eE_s, eE_n, modAb, modByE, e1, q_fdivI hn0 hs, q_modI hn0, c2]
      · simp! only [k__law_left_up, k__law_left_up_b, eS_s, eE_s, eE_n, modAb, modByE, e1, q_fdivI hn0 hs, q_modI hn0, c2]
  have e2 : decide (some n = o2) = false := decide_eq_false c
  rw [e2] at e1
  rcases o2 with _ | m
  · simp only [eE_n] at e1
    rcases l with _ | l
    · rcases r with _ | r <;> simp! only [k__law_left_up, k__law_left_up_b, eS_s, eE_s, eE_n, modAb, e1, c, addE, Option.map_none, Option.isNone_none]
    · by_cases c2 : l < 0
      · have c4 : ¬ 0 ≤ l := by omega
        rcases r with _ | r <;> simp! only [k__law_left_up, k__law_left_up_b, eS_s, eE_s, eE_n, modAb, e1, c, addE, Option.map_none, Option.isNone_some, ltE, c2, c4]
      · have c4 : 0 ≤ l := by omega
        rcases r with _ | r
        · simp! only [k__law_left_up, k__law_left_up_b, eS_s, eE_s, eE_n, modAb, e1, c, addE, Option.map_none, Option.isNone_some, ltE, c2, c4, highM]
        · by_cases c3 : r < n <;> simp! only [k__law_left_up, k__law_left_up_b, eS_s, eE_s, eE_n, modAb, e1, c, addE, Option.map_none, Option.isNone_some, ltE, c2, c3, c4, highM, appAt, q_minL1]
  · simp only [eE_s] at e1
    rcases l with _ | l
    · rcases r with _ | r <;> simp! only [k__law_left_up, k__law_left_up_b, eS_s, eE_s, eE_n, modAb, e1, c, addE, Option.map_some, Option.isNone_none, q_minL1, Int.sub_eq_add_neg]
    · by_cases c2 : l < 0
      · have c4 : ¬ 0 ≤ l := by omega
        rcases r with _ | r <;> simp! only [k__law_left_up, k__law_left_up_b, eS_s, eE_s, eE_n, modAb, e1, c, addE, Option.map_some, Option.isNone_some, ltE, c2, c4, q_minL1, Int.sub_eq_add_neg]
      · have c4 : 0 ≤ l := by omega
        rcases r with _ | r
        · simp! only [k__law_left_up, k__law_left_up_b, eS_s, eE_s, eE_n, modAb, e1, c, addE, Option.map_some, Option.isNone_some, ltE, c2, c4, highM, q_minL1, Int.sub_eq_add_neg]
        · by_cases c3 : r < n <;> simp! only [k__law_left_up, k__law_left_up_b, eS_s, eE_s, eE_n, modAb, e1, c, addE, Option.map_some, Option.isNone_some, ltE, c2, c3, c4, highM, appAt, q_minL2, Int.sub_eq_add_neg]
theorem modS_none (b : SS) : modS none b = none := by
  unfold modS
  rfl
theorem k_left_ok {f1 f2 f3 f4 : Fn} (h1 : ∀ a b, f1 [.val (eS a), .val (eS b)] = some (.val (eS (joinS a b)), [])) (h2 : ∀ a b, f2 [.val (eS a), .val (eS b)] = some (.val (eS (meetS a b)), [])) (h3 : ∀ a, f3 [.val (eS a)] = some (.val (eS (backS a)), []))
    (h4 : ∀ l r b, dvS b → f4 [.val (eS (some (l, r))), .val (eS b)] = some (.val (eS (modAb (some (l, r)) b)), [])) (a : SS) {b : SS} (d1 : dvS (aboveS b)) (d2 : dvS (aboveS (backS b))) : k__law_left f1 f2 f3 f4 [.val (eS a), .val (eS b)] = some (.val (eS (modS a b)), []) := by
  rcases a with _ | ⟨l, r⟩
  · rw [modS_none]
    simp! only [k__law_left, k__law_left_b, eS_n]
  have m1 := h2 b (some (some 1, none))
  have m2 := h2 (backS b) (some (some 1, none))
  have l1 := h4 l r _ d1
  have l2 := h4 (negE r) (negE l) _ d2
  have t1 := h3 (some (l, r))
  have t2 := h3 b
  have t3 := h3 (modAb (some (negE r, negE l)) (aboveS (backS b)))
  have j := h1 (modAb (some (l, r)) (aboveS b)) (backS (modAb (some (negE r, negE l)) (aboveS (backS b))))
  have h0 : gEq (eS (some (l, r))) (.tuple []) = some (.bool false) := q_eqT1
  generalize ha : eS (some (l, r)) = da at l1 t1 h0
  have e2 : backS (some (l, r)) = some (negE r, negE l) := rfl
  rw [e2] at t1
  simp only [eS_s, eE_n, eE_s] at m1 m2 t1 l2
  unfold aboveS at l1 l2 t3 j
  simp! only [k__law_left, k__law_left_b, h0, m1, l1, t1, t2, m2, l2, t3, j]
  rfl
end
end Ev
namespace Ev
open PySem PySem.Spec PyProof.Rows L2
/-! ## k27: laws of modulo -/
theorem log2_of {n : Int} (h1 : 1 ≤ n) (h2 : n ≤ 2 ^ 200) : n.natAbs.log2 < 9000 := by
  have : n.natAbs.log2 < 201 := (Nat.log2_lt (by omega)).mpr (by omega)
  omega
theorem dv_above {b : SS} (h : szS (2 ^ 200) b) : dvS (aboveS b) := by
  rcases b with _ | ⟨b1, b2⟩
  · exact .inl rfl
  · simp only [aboveS, meetS]
    split
    · right
      rcases b1 with _ | b1
      · exact ⟨1, _, rfl, by omega, by decide +kernel⟩
      · have := h.1.2
        have h3 : max b1 1 ≤ 2 ^ 200 := by omega
        exact ⟨max b1 1, _, rfl, by omega, log2_of (by omega) h3⟩
    · exact .inl rfl
theorem szE_neg {z : Int} {x : EE} (h : szE z x) : szE z (negE x) := by
  rcases x with _ | i
  · trivial
  · obtain ⟨h1, h2⟩ := h
    exact (show -z ≤ -i ∧ -i ≤ z from ⟨by omega, by omega⟩)
theorem sz_back {z : Int} {b : SS} (h : szS z b) : szS z (backS b) := by
  rcases b with _ | ⟨l, r⟩
  · trivial
  · exact ⟨szE_neg h.2, szE_neg h.1⟩
theorem ok_back {a : SS} (h : okS a = true) : okS (backS a) = true := by
  rcases a with _ | ⟨_ | l, _ | r⟩ <;> try rfl
  have := of_decide_eq_true (show decide (l ≤ r) = true from h)
  exact (show decide (-r ≤ -l) = true from decide_eq_true (by omega))
theorem has_back {a : SS} {k : Int} : hasS (backS a) k = hasS a (-k) := by
  rcases a with _ | ⟨_ | l, _ | r⟩ <;> simp only [backS, negE, hasS, leE, Option.map_none, Option.map_some, Bool.and_true, Bool.true_and]
  · apply decide_eq_decide.mpr; omega
  · apply decide_eq_decide.mpr; omega
  · rw [Bool.and_comm]
    congr 1 <;> (apply decide_eq_decide.mpr; omega)
theorem div_le {l r n : Int} (hn : 0 < n) (h : l ≤ r) : l / n ≤ r / n := Int.ediv_le_ediv hn h
/-- within one lot the rests keep their order -/
theorem mod_mono {l r n : Int} (hn : 0 < n) (hq : l / n = r / n) (h : l ≤ r) : l % n ≤ r % n := by
  rw [Int.emod_def, Int.emod_def, hq]
  omega
theorem modBy_cases (l r : EE) (n : Int) : (∃ x y, l = some x ∧ r = some y ∧ x / n = y / n ∧ modByE l r n = (some (x % n), some (y % n))) ∨ ((∀ x y, l = some x → r = some y → x / n ≠ y / n) ∧ modByE l r n = (some 0, some (n - 1))) := by
  rcases l with _ | x
  · exact .inr ⟨fun x y h => by (cases h), rfl⟩
  rcases r with _ | y
  · exact .inr ⟨fun x y _ h => by (cases h), rfl⟩
  by_cases c : x / n = y / n
  · exact .inl ⟨x, y, rfl, rfl, c, by simp only [modByE]; rw [if_pos c]⟩
  · exact .inr ⟨fun x' y' h1 h2 => by cases h1; cases h2; exact c, by simp only [modByE]; rw [if_neg c]⟩
theorem has_modBy {l r : EE} {n x : Int} (hn : 0 < n) (hx : hasS (some (l, r)) x = true) : hasS (some (modByE l r n)) (x % n) = true := by
  have b1 := Int.emod_nonneg x (b := n) (by omega)
  have b2 := Int.emod_lt_of_pos x hn
  rcases modBy_cases l r n with ⟨u, v, rfl, rfl, hq, e⟩ | ⟨-, e⟩
  · rw [e]
    simp only [hasS, leE, Bool.and_eq_true, decide_eq_true_eq] at hx ⊢
    have q1 := div_le hn hx.1
    have q2 := div_le hn hx.2
    exact ⟨mod_mono hn (by omega) hx.1, mod_mono hn (by omega) hx.2⟩
  · rw [e]
    simp only [hasS, leE, Bool.and_eq_true, decide_eq_true_eq]
    omega
theorem ok_modBy {l r : EE} {n : Int} (hn : 0 < n) (h : okS (some (l, r)) = true) : okS (some (modByE l r n)) = true := by
  rcases modBy_cases l r n with ⟨u, v, rfl, rfl, hq, e⟩ | ⟨-, e⟩
  · rw [e]
    exact decide_eq_true (mod_mono hn hq (of_decide_eq_true h))
  · rw [e]
    exact decide_eq_true (by omega)
theorem modAb_none (a : SS) : modAb a none = none := by
  rcases a with _ | ⟨l, r⟩ <;> rfl
theorem modAb_eq (l r : EE) (n : Int) (o2 : EE) : modAb (some (l, r)) (some (some n, o2)) = if some n = o2 then some (modByE l r n) else if (l.isNone || ltE l 0) = true then some (some 0, addE o2 (-1)) else if ltE r n = true then some (l, r) else some (some 0, highM (addE o2 (-1)) r) := rfl
theorem has_modAb {a : SS} {n : Int} {o2 : EE} {x y : Int} (hn : 1 ≤ n) (hx : hasS a x = true) (hy : hasS (some (some n, o2)) y = true) : hasS (modAb a (some (some n, o2))) (x % y) = true := by
  rcases a with _ | ⟨l, r⟩
  · cases hx
  have hy' := hy
  simp only [hasS, leE, Bool.and_eq_true, decide_eq_true_eq] at hy
  have hy0 : 0 < y := by omega
  have b1 := Int.emod_nonneg x (b := y) (by omega)
  have b2 := Int.emod_lt_of_pos x hy0
  rw [modAb_eq]
  split
  · rename_i c
    subst c
    have : y = n := by
      have := hy.2
      simp only [decide_eq_true_eq] at this
      omega
    subst this
    exact has_modBy hy0 hx
  split
  · rcases o2 with _ | m <;> simp [hasS, leE, addE] at hy ⊢ <;> omega
  rename_i c2
  rcases l with _ | l
  · simp at c2
  simp only [Option.isNone_some, Bool.false_or, ltE, decide_eq_true_eq] at c2
  simp only [hasS, leE, Bool.and_eq_true, decide_eq_true_eq] at hx
  split
  · rename_i c3
    rcases r with _ | r
    · cases c3
    · have := of_decide_eq_true c3
      simp only [decide_eq_true_eq] at hx
      rw [Int.emod_eq_of_lt (by omega) (by omega)]
      simp only [hasS, leE, Bool.and_eq_true, decide_eq_true_eq]
      exact hx
  · have b3 : x % y ≤ x := by
      have h1 := Int.emod_add_mul_ediv x y
      have h2 : 0 ≤ y * (x / y) := Int.mul_nonneg (by omega) (Int.ediv_nonneg (by omega) (by omega))
      omega
    rcases r with _ | r <;> rcases o2 with _ | m <;> simp [hasS, leE, addE, highM] at hx hy ⊢ <;> omega
theorem ok_modAb {a : SS} {n : Int} {o2 : EE} (hn : 1 ≤ n) (ha : okS a = true) (hb : okS (some (some n, o2)) = true) : okS (modAb a (some (some n, o2))) = true := by
  rcases a with _ | ⟨l, r⟩
  · rfl
  rw [modAb_eq]
  split
  · exact ok_modBy (by omega) ha
  split
  · rcases o2 with _ | m
    · rfl
    · have := of_decide_eq_true (show decide (n ≤ m) = true from hb)
      exact (show decide ((0 : Int) ≤ m + -1) = true from decide_eq_true (by omega))
  rename_i c2
  split
  · exact ha
  · rcases l with _ | l
    · simp at c2
    simp only [Option.isNone_some, Bool.false_or, ltE, decide_eq_true_eq] at c2
    rcases r with _ | r <;> rcases o2 with _ | m <;> simp [okS, leE, addE, highM] at ha hb ⊢ <;> omega
theorem above_ok (b : SS) : okS (aboveS b) = true := ok_meet _ _
theorem has_above {b : SS} {y : Int} (h : hasS b y = true) (hy : 0 < y) : hasS (aboveS b) y = true := by
  unfold aboveS
  rw [has_meet, h]
  simp [hasS, leE]
  omega
theorem ok_mod1 {a b : SS} (ha : okS a = true) : okS (modAb a (aboveS b)) = true := by
  rcases above_low b with e | ⟨n, o2, e, hn⟩
  · rw [e, modAb_none]; rfl
  · have := above_ok b
    rw [e] at this ⊢
    exact ok_modAb hn ha this
theorem ok_mod {a b : SS} (ha : okS a = true) : okS (modS a b) = true := ok_join (ok_mod1 ha) (ok_back (ok_mod1 (ok_back ha)))
theorem fmod_neg {x y : Int} : x.fmod y = -((-x).fmod (-y)) := by
  rw [Int.neg_fmod_neg]; omega
theorem has_mod1 {a b : SS} {x y : Int} (ha : hasS a x = true) (hb : hasS b y = true) (hy : 0 < y) : hasS (modAb a (aboveS b)) (x % y) = true := by
  have h := has_above hb hy
  rcases above_low b with e | ⟨n, o2, e, hn⟩
  · rw [e] at h; cases h
  · rw [e] at h ⊢
    exact has_modAb hn ha h
theorem has_mod {a b : SS} {x y : Int} (ha : hasS a x = true) (hb : hasS b y = true) (hy : y ≠ 0) : hasS (modS a b) (x.fmod y) = true := by
  unfold modS
  apply has_join
  by_cases c : 0 < y
  · rw [Int.fmod_eq_emod_of_nonneg x (by omega), has_mod1 ha hb c]
    rfl
  · have e : x.fmod y = -((-x) % (-y)) := by rw [fmod_neg, Int.fmod_eq_emod_of_nonneg _ (by omega)]
    have h := has_mod1 (a := backS a) (b := backS b) (x := -x) (y := -y) (by rw [has_back, Int.neg_neg]; exact ha) (by rw [has_back, Int.neg_neg]; exact hb) (by omega)
    rw [e, has_back, Int.neg_neg, h, Bool.or_true]
/-! ### by one divisor -/
theorem above_one {n : Int} (hn : 1 ≤ n) : aboveS (some (some n, some n)) = some (some n, some n) := by
  simp only [aboveS, meetS, lowM, highM, leE, decide_eq_true_eq]
  rw [if_pos (by omega), show max n 1 = n by omega]
theorem above_none {n : Int} (hn : n < 1) : aboveS (some (some n, some n)) = none := by
  simp only [aboveS, meetS, lowM, highM, leE, decide_eq_true_eq]
  rw [if_neg (by omega)]
theorem mod_pos (l r : EE) {n : Int} (hn : 1 ≤ n) : modS (some (l, r)) (some (some n, some n)) = some (modByE l r n) := by
  have e : backS (some (some n, some n)) = some (some (-n), some (-n)) := rfl
  unfold modS
  rw [e, above_one hn, above_none (by omega), modAb_none, modAb_eq, if_pos rfl]
  rfl
theorem mod_neg (l r : EE) {n : Int} (hn : n ≤ -1) : modS (some (l, r)) (some (some n, some n)) = backS (some (modByE (negE r) (negE l) (-n))) := by
  have e : backS (some (some n, some n)) = some (some (-n), some (-n)) := rfl
  have e2 : backS (some (l, r)) = some (negE r, negE l) := rfl
  unfold modS
  rw [e, e2, above_one (n := -n) (by omega), above_none (n := n) (by omega), modAb_none, modAb_eq, if_pos rfl]
  rfl
def triedL (l r : EE) (n : Int) : List Int := (match l, r with
  | some x, some y => if (n.natAbs : Int) ≤ y - x then (List.range n.natAbs).map (fun k => ((k : Nat) : Int)) else (List.range (y + 1 - x).toNat).map (fun k => x + (k : Nat))
  | _, _ => (List.range n.natAbs).map (fun k => ((k : Nat) : Int))).map fun (x : Int) => x.fmod n
/-- the numbers tried: from u to v -/
theorem triedL_mem (l r : EE) {n : Int} (hn : n ≠ 0) (hok : okS (some (l, r)) = true) : ∃ u v : Int, u ≤ v ∧ (∀ z, z ∈ triedL l r n ↔ ∃ x, u ≤ x ∧ x ≤ v ∧ z = x.fmod n) ∧ ((u = 0 ∧ v = n.natAbs - 1 ∧ ∀ x y, l = some x → r = some y → (n.natAbs : Int) ≤ y - x) ∨ (l = some u ∧ r = some v)) := by
  have key : ∀ z, z ∈ ((List.range n.natAbs).map (fun k => ((k : Nat) : Int))).map (fun x => x.fmod n) ↔ ∃ x, 0 ≤ x ∧ x ≤ (n.natAbs : Int) - 1 ∧ z = x.fmod n := fun z => by
    rw [List.map_map, List.mem_map]
    constructor
    · rintro ⟨k, hk, rfl⟩
      have := List.mem_range.mp hk
      exact ⟨k, by omega, by omega, rfl⟩
    · rintro ⟨x, h1, h2, rfl⟩
      exact ⟨x.toNat, List.mem_range.mpr (by omega), by simp [show ((x.toNat : Nat) : Int) = x by omega]⟩
  rcases l with _ | x
  · exact ⟨0, n.natAbs - 1, by omega, key, .inl ⟨rfl, rfl, fun x y h => by cases h⟩⟩
  rcases r with _ | y
  · exact ⟨0, n.natAbs - 1, by omega, key, .inl ⟨rfl, rfl, fun x y _ h => by cases h⟩⟩
  by_cases c : (n.natAbs : Int) ≤ y - x
  · refine ⟨0, n.natAbs - 1, by omega, fun z => ?_, .inl ⟨rfl, rfl, fun x' y' h1 h2 => by cases h1; cases h2; exact c⟩⟩
    show z ∈ (if _ then _ else _ : List Int).map _ ↔ _
    rw [if_pos c]
    exact key z
  · refine ⟨x, y, of_decide_eq_true hok, fun z => ?_, .inr ⟨rfl, rfl⟩⟩
    show z ∈ (if _ then _ else _ : List Int).map _ ↔ _
    rw [if_neg c, List.map_map, List.mem_map]
    constructor
    · rintro ⟨k, hk, rfl⟩
      have := List.mem_range.mp hk
      exact ⟨x + (k : Nat), by omega, by omega, rfl⟩
    · rintro ⟨w, h1, h2, rfl⟩
      exact ⟨(w - x).toNat, List.mem_range.mpr (by omega), by show (x + (((w - x).toNat : Nat) : Int)).fmod n = _; rw [show x + (((w - x).toNat : Nat) : Int) = w by omega]⟩
/-- all rests of a lot of numbers -/
theorem rests_of {u v m : Int} (hm : 0 < m) (huv : u ≤ v) : ∃ p q, modByE (some u) (some v) m = (some p, some q) ∧ (∃ x, u ≤ x ∧ x ≤ v ∧ p = x % m) ∧ (∃ x, u ≤ x ∧ x ≤ v ∧ q = x % m) ∧ ∀ x, u ≤ x → x ≤ v → p ≤ x % m ∧ x % m ≤ q := by
  have hs : ∀ x, u ≤ x → x ≤ v → hasS (some (modByE (some u) (some v) m)) (x % m) = true := fun x h1 h2 => has_modBy hm (by simp [hasS, leE]; omega)
  rcases modBy_cases (some u) (some v) m with ⟨x, y, e1, e2, hq, e⟩ | ⟨hq, e⟩
  · cases e1; cases e2
    rw [e] at hs ⊢
    refine ⟨_, _, rfl, ⟨u, by omega, huv, rfl⟩, ⟨v, huv, by omega, rfl⟩, fun x h1 h2 => ?_⟩
    have := hs x h1 h2
    simpa [hasS, leE] using this
  · rw [e] at hs ⊢
    have hq := hq u v rfl rfl
    have h1 := div_le hm huv
    have d1 := Int.emod_add_mul_ediv v m
    have d2 := Int.emod_add_mul_ediv u m
    have b1 := Int.emod_nonneg v (b := m) (by omega)
    have b2 := Int.emod_lt_of_pos u hm
    have h2 : m * (u / m) + m ≤ m * (v / m) := by
      have : m * (u / m + 1) ≤ m * (v / m) := Int.mul_le_mul_of_nonneg_left (by omega) (by omega)
      rw [Int.mul_add, Int.mul_one] at this
      exact this
    refine ⟨0, m - 1, rfl, ⟨m * (v / m), by omega, by omega, (Int.mul_emod_right m _).symm⟩, ⟨m * (v / m) - 1, by omega, by omega, ?_⟩, fun x h1 h2 => ?_⟩
    · rw [show m * (v / m) - 1 = (m - 1) + m * (v / m - 1) by rw [Int.mul_sub, Int.mul_one]; omega, Int.add_mul_emod_self_left, Int.emod_eq_of_lt (by omega) (by omega)]
    · have := hs x h1 h2
      simpa [hasS, leE] using this
theorem modBy_wide {l r : EE} {m : Int} (hm : 0 < m) (h : ∀ x y, l = some x → r = some y → m ≤ y - x) : modByE l r m = (some 0, some (m - 1)) := by
  rcases modBy_cases l r m with ⟨x, y, rfl, rfl, hq, e⟩ | ⟨hq, e⟩
  · have := h x y rfl rfl
    have d1 := Int.emod_add_mul_ediv x m
    have d2 := Int.emod_add_mul_ediv y m
    have b1 := Int.emod_nonneg x (b := m) (by omega)
    have b2 := Int.emod_lt_of_pos y hm
    rw [hq] at d1
    omega
  · exact e
theorem tried_mod {l r : EE} {n : Int} (hn : n ≠ 0) (hok : okS (some (l, r)) = true) : hullS (triedL l r n) = modS (some (l, r)) (some (some n, some n)) := by
  obtain ⟨u, v, huv, hmem, hc⟩ := triedL_mem l r hn hok
  by_cases c : 1 ≤ n
  · have hf : ∀ x : Int, x.fmod n = x % n := fun x => Int.fmod_eq_emod_of_nonneg x (by omega)
    rw [mod_pos l r c]
    have hl : modByE l r n = modByE (some u) (some v) n := by
      rcases hc with ⟨rfl, rfl, hw⟩ | ⟨rfl, rfl⟩
      · rw [modBy_wide (by omega) fun x y h1 h2 => by have := hw x y h1 h2; omega]
        rcases modBy_cases (some 0) (some ((n.natAbs : Int) - 1)) n with ⟨x, y, e1, e2, hq, e⟩ | ⟨hq, e⟩
        · cases e1; cases e2
          rw [e, Int.emod_eq_of_lt (a := 0) (by omega) (by omega), Int.emod_eq_of_lt (by omega) (by omega)]
          congr 2
          omega
        · exact e.symm
      · rfl
    obtain ⟨p, q, e, ⟨x1, a1, a2, rfl⟩, ⟨x2, b1, b2, rfl⟩, hb⟩ := rests_of (m := n) (by omega) huv
    rw [hl, e]
    refine hull_of ((hmem _).mpr ⟨x1, a1, a2, (hf _).symm⟩) ((hmem _).mpr ⟨x2, b1, b2, (hf _).symm⟩) fun z hz => ?_
    obtain ⟨x, h1, h2, rfl⟩ := (hmem z).mp hz
    rw [hf]
    exact hb x h1 h2
  · have hf : ∀ x : Int, x.fmod n = -((-x) % (-n)) := fun x => by rw [fmod_neg, Int.fmod_eq_emod_of_nonneg _ (by omega)]
    rw [mod_neg l r (by omega)]
    have hl : modByE (negE r) (negE l) (-n) = modByE (some (-v)) (some (-u)) (-n) := by
      rcases hc with ⟨rfl, rfl, hw⟩ | ⟨rfl, rfl⟩
      · rw [modBy_wide (by omega) fun x y h1 h2 => ?_]
        · rcases modBy_cases (some (-((n.natAbs : Int) - 1))) (some (-0)) (-n) with ⟨x, y, e1, e2, hq, e⟩ | ⟨hq, e⟩
          · have h1 : (-0 : Int) = 0 := rfl
            cases e1; cases e2
            have h5 : (-0 : Int) / (-n) = 0 := by rw [h1, Int.zero_ediv]
            rw [h5] at hq
            have d1 := Int.emod_add_mul_ediv (-((n.natAbs : Int) - 1)) (-n)
            have d2 := Int.emod_nonneg (-((n.natAbs : Int) - 1)) (b := -n) (by omega)
            rw [hq, Int.mul_zero] at d1
            have h2 : n = -1 := by omega
            subst h2
            rw [e]
            decide
          · exact e.symm
        · rcases l with _ | l
          · cases h2
          rcases r with _ | r
          · cases h1
          cases h1; cases h2
          have := hw l r rfl rfl
          show -n ≤ -l - -r
          omega
      · rfl
    obtain ⟨p, q, e, ⟨x1, a1, a2, rfl⟩, ⟨x2, b1, b2, rfl⟩, hb⟩ := rests_of (u := -v) (v := -u) (m := -n) (by omega) (by omega)
    rw [hl, e]
    have hg : ∀ z ∈ triedL l r n, -(x2 % -n) ≤ z ∧ z ≤ -(x1 % -n) := fun z hz => by
      obtain ⟨x, h1, h2, rfl⟩ := (hmem z).mp hz
      rw [hf]
      have := hb (-x) (by omega) (by omega)
      omega
    exact hull_of (p := -(x2 % -n)) (q := -(x1 % -n)) ((hmem _).mpr ⟨-x2, by omega, by omega, by rw [hf, Int.neg_neg]⟩) ((hmem _).mpr ⟨-x1, by omega, by omega, by rw [hf, Int.neg_neg]⟩) hg
end Ev
namespace Ev
local macro_rules
  | `(tactic| simp! only [$as,*]) => `(tactic| simp only [↓x_var, ↓x_C, ↓x_op, ↓x_fz, ↓x_rV, ↓x_B, ↓x_chain, ↓x_tru, ↓x_notT, ↓x_andT, ↓x_orT, ↓x_and, ↓x_or, ↓x_not, ↓x_neg, ↓x_if, ↓x_aNil, ↓x_aVal, ↓x_aSlot, ↓x_aTmp, ↓x_aR, ↓x_call, ↓x_callK, ↓x_dNil, ↓x_dCons, ↓x_tup, ↓x_lst, ↓x_itemN, ↓x_ownItem, ↓x_lenN, ↓x_blt, ↓x_isi, ↓x_list, ↓x_rgL1, ↓x_rgL2, ↓x_iSeq, ↓x_iZip, ↓x_range1, ↓x_range2, ↓x_addR, ↓x_slice, ↓x_partN, ↓x_partS, ↓x_comp, ↓x_skip, ↓x_stuck, ↓x_break, ↓x_cont, ↓x_seq, ↓x_sIf, ↓x_sExpr, ↓x_ret, ↓x_retN, ↓x_move, ↓x_setRv, ↓x_setRf, ↓x_set, ↓x_gN, ↓x_gsNil, ↓x_gsCons, ↓x_gTup, ↓x_gIx, ↓x_setAt, ↓x_asg, ↓x_par, ↓x_sm0, ↓x_smV, ↓x_smF, ↓x_app, ↓x_for, ↓x_for0, ↓x_for1, ↓x_comp0, ↓x_comp1, ↓x_fn, ↓x_iEnum, ↓x_range3, ↓x_comp2, ↓x_compN0, ↓x_compN1, q_addI, q_addT, q_addL, q_subI, q_ltI, q_leI, q_gtI, q_geI, q_isN, q_isNotN, q_eqI, q_neI, q_eqB, q_eqT0, q_eqT1, q_neT0, q_neT1, q_eqL0, q_eqL1, q_neL0, q_neL1, q_int, q_abs, q_min2, q_max2, q_at0, q_at1, q_at2, q_at3, q_ix0, q_ix1, q_ix2, q_sz, q_iteS, q_iteT, q_iteR, q_iteV, q_iteBB, q_iteII, q_iteAnd, q_iteOr, q_iteNot, q_iteCon, q_pa0, q_pa1, q_pa2, q_pa3, q_ow0, q_ow1, q_ow2, q_ow3, q_c0, q_c1, q_c2, q_c3, q_c4, q_c5, q_c6, q_c7, q_c8, q_c9, q_c10, q_c11, q_c12, q_all0, q_all1, q_all2, q_all3, q_inN2, q_inN0, q_02a, q_02b, List.getElem?_cons_zero, List.getElem?_cons_succ, List.set_cons_zero, List.set_cons_succ, wipeE, initE, outsOf, toAv, slotsOf, putOuts, natNodup, List.map_cons, List.map_nil, List.cons_append, List.nil_append, List.append_nil, List.replicate, List.length_cons, List.length_nil, isNone, isiD, seqD, gItem, truD, zipOf, zipD, pick, List.contains_nil, List.contains_cons, eq_self, if_true, if_false, Bool.false_eq_true, Bool.true_eq_false, Bool.not_true, Bool.not_false, reduceIte, decide_true, decide_false, Nat.reduceAdd, Nat.reduceSub, Nat.zero_add, Nat.add_zero, and_self, true_and, and_true, Bool.and_true, Bool.true_and, Bool.or_false, Bool.false_or, Bool.or_true, Bool.true_or, Bool.and_false, Bool.false_and, Bool.or_self, Bool.and_self, Nat.sub_self, Option.map_some, Option.map_none, Nat.reduceBEq, Bool.not_eq_true, beq_self_eq_true, Nat.reduceLeDiff, Nat.reduceLT, Nat.reduceEqDiff, List.filterMap_cons, List.filterMap_nil, $as,*])
open PySem PySem.Spec PyProof.Rows L2
/-! ## k27: the checks -/
theorem q_fm {x y : Int} (h : y ≠ 0) : gMod (.int x) (.int y) = some (.int (x.fmod y)) := by
  show (if decide (y ≠ 0) = true then _ else _) = _
  rw [if_pos (decide_eq_true h)]
theorem q_neS (a b : SS) : gNe (eS a) (eS b) = some (.bool (!decide (a = b))) := by
  have h : eqOk (eS a) (eS b) = true := decide_eq_true (by have := depth_eS a; omega)
  unfold gNe
  rw [if_pos h, eqv_eS]
abbrev ModF (f : Fn) : Prop := ∀ a b, okS a = true → okS b = true → szS (2 ^ 200) b → f [.val (eS a), .val (eS b)] = some (.val (eS (modS a b)), [])
def eW (w : Nat) : D := eS (some (some (2 ^ w), some (2 ^ w)))
theorem pow_sz {w : Nat} (h : w ≤ 16) : (1 : Int) ≤ 2 ^ w ∧ (2 : Int) ^ w ≤ 65536 := by
  have : w = 0 ∨ w = 1 ∨ w = 2 ∨ w = 3 ∨ w = 4 ∨ w = 5 ∨ w = 6 ∨ w = 7 ∨ w = 8 ∨ w = 9 ∨ w = 10 ∨ w = 11 ∨ w = 12 ∨ w = 13 ∨ w = 14 ∨ w = 15 ∨ w = 16 := by omega
  rcases this with rfl | rfl | rfl | rfl | rfl | rfl | rfl | rfl | rfl | rfl | rfl | rfl | rfl | rfl | rfl | rfl | rfl <;> decide
theorem q_shl1 {w : Nat} (h : w ≤ 16) : gShl (.int 1) (.int (w : Nat)) = some (.int (2 ^ w)) := by
  show (if powOk 1 (w : Nat) = true then _ else _) = _
  rw [if_pos]
  · simp
  · unfold powOk
    rw [decide_eq_true (by omega), decide_eq_true (by omega), decide_eq_true (by decide)]
    rfl
theorem one_sz {n : Int} (h1 : -65536 ≤ n) (h2 : n ≤ 65536) : okS (some (some n, some n)) = true ∧ szS (2 ^ 200) (some (some n, some n)) := ⟨decide_eq_true (by omega), ⟨by omega, by omega⟩, ⟨by omega, by omega⟩⟩
section
variable {f g h w : Fn}
theorem k_modulo_ok (h1 : ∀ a b, dvS (aboveS b) → dvS (aboveS (backS b)) → f [.val (eS a), .val (eS b)] = some (.val (eS (modS a b)), [])) (h2 : ∀ a b, okS a = true → okS b = true → g [.val (eS a), .val (eS b)] = some (.val .none, [])) : ModF (k_stretch_modulo f g) := fun a b ha hb hz => by
  simp! only [k_stretch_modulo, k_stretch_modulo_b, h1 a b (dv_above hz) (dv_above (sz_back hz)), h2 a b ha hb]
theorem k_between_ok (h1 : ∀ i, f [.val (.int i)] = some (.val (.bool true), [])) (i l r : Int) : k_is_between f [.val (.int i), .val (.int l), .val (.int r)] = some (.val (.bool (decide (l ≤ i ∧ i ≤ r))), []) := by
  by_cases c1 : l ≤ i <;> by_cases c2 : i ≤ r <;> simp! only [k_is_between, k_is_between_b, h1, c1, c2]
theorem k_check_width_ok (h1 : ∀ i l r : Int, f [.val (.int i), .val (.int l), .val (.int r)] = some (.val (.bool (decide (l ≤ i ∧ i ≤ r))), [])) {i : Int} (hi : 1 ≤ i ∧ i ≤ 16) : k_check_width f [.val (.int i)] = some (.val .none, []) := by
  simp! only [k_check_width, k_check_width_b, h1, hi]
theorem k_wrapped_ok (h1 : ∀ a b, dvS (aboveS b) → dvS (aboveS (backS b)) → f [.val (eS a), .val (eS b)] = some (.val (eS (modS a b)), [])) (a : SS) {n : Nat} (hn : n ≤ 16) : k_wrapped_stretch f [.val (eS a), .val (.int (n : Nat))] = some (.val (eS (modS a (some (some (2 ^ n), some (2 ^ n))))), []) := by
  have hz := one_sz (n := 2 ^ n) (by have := pow_sz hn; omega) (pow_sz hn).2
  have m := h1 a (some (some (2 ^ n), some (2 ^ n))) (dv_above hz.2) (dv_above (sz_back hz.2))
  simp only [eS_s, eE_s] at m
  simp! only [k_wrapped_stretch, k_wrapped_stretch_b, q_shl1 hn, m]
theorem k_stretch_wrapped_ok (h1 : ∀ a (n : Nat), n ≤ 16 → f [.val (eS a), .val (.int (n : Nat))] = some (.val (eS (modS a (some (some (2 ^ n), some (2 ^ n))))), [])) (h2 : ∀ a, okS a = true → g [.val (eS a)] = some (.val .none, [])) (h3 : ∀ i : Int, 1 ≤ i ∧ i ≤ 16 → h [.val (.int i)] = some (.val .none, [])) {a : SS} (ha : okS a = true) {n : Nat} (hn : 1 ≤ n ∧ n ≤ 16) :
    k_stretch_wrapped f g h [.val (eS a), .val (.int (n : Nat))] = some (.val (eS (modS a (some (some (2 ^ n), some (2 ^ n))))), []) := by
  simp! only [k_stretch_wrapped, k_stretch_wrapped_b, h1 a n hn.2, h2 a ha, h3 (n : Nat) ⟨by omega, by omega⟩]
/-! ### the law's own -/
theorem comp_mod {n : Int} (hn : n ≠ 0) (s0 s2 : Sl) (xs : List Int) (hl : xs.length ≤ 100000) : compL (gN 3) (fun env => some (true, env)) (eOp gMod (eBlt gInt (dCons (eVar 3) dNil)) (eVar 1)) [3] (xs.map PyData.int) [] [s0, .val (.int n), s2, .no] = some ((xs.map fun x => x.fmod n).map PyData.int, [s0, .val (.int n), s2, .no]) := by
  rw [compL_all (h := fun d => match d with | .int x => .int (x.fmod n) | d => d) _ [] (by rw [List.length_map, List.length_nil, q_sz]; omega) fun d hd => ?_]
  · rw [List.nil_append, List.map_map, List.map_map]
    rfl
  · obtain ⟨x, _, rfl⟩ := List.mem_map.mp hd
    refine ⟨[s0, .val (.int n), s2, .val (.int x)], [s0, .val (.int n), s2, .val (.int x)], [s0, .val (.int n), s2, .val (.int x)], ?_, rfl, ?_, ?_⟩
    · simp! only [x_C]
    · simp! only [q_fm hn]
    · simp! only [x_C]
theorem minmax_ok {ns : List Int} {p q : EE} (hh : hullS ns = some (p, q)) : gMin [.list (ns.map PyData.int)] = some (eE p) ∧ gMax [.list (ns.map PyData.int)] = some (eE q) := by
  cases ns with
  | nil => cases hh
  | cons n ns =>
    cases hh
    constructor
    · show (intsOf ((n :: ns).map PyData.int)).bind _ = _
      rw [intsOf_map]
      rfl
    · show (intsOf ((n :: ns).map PyData.int)).bind _ = _
      rw [intsOf_map]
      rfl
theorem abs_nat {n : Int} : (if n < 0 then -n else n) = ((n.natAbs : Nat) : Int) := by
  split <;> omega
theorem range_ints0 (n : Nat) : rangeD 0 ((n : Int) - 0).toNat = ((List.range n).map fun k => ((k : Nat) : Int)).map PyData.int := by
  rw [range_ints, show ((n : Int) - 0).toNat = n by omega]
  simp
theorem mod_some (l r : EE) {n : Int} (hn : n ≠ 0) : ∃ p q, modS (some (l, r)) (some (some n, some n)) = some (p, q) := by
  by_cases c : 1 ≤ n
  · rw [mod_pos l r c]; exact ⟨_, _, rfl⟩
  · rw [mod_neg l r (by omega)]; exact ⟨_, _, rfl⟩
theorem k27_tried_ok {l r : EE} {n : Int} (hn : n ≠ 0) (hs : n.natAbs ≤ 65536) (hok : okS (some (l, r)) = true) : k__law_tried_v3 [.val (eS (some (l, r))), .val (.int n)] = some (.val (eS (modS (some (l, r)) (some (some n, some n)))), []) := by
  have ht := tried_mod hn hok
  obtain ⟨p, q, e⟩ := mod_some l r hn
  rw [e] at ht
  obtain ⟨m1, m2⟩ := minmax_ok ht
  rw [e]
  have r1 := range_ints0 n.natAbs
  have big : rgB 0 (n.natAbs : Int) = true := decide_eq_true (by omega)
  have c1 := comp_mod hn (.val (eS (some (l, r)))) .no ((List.range n.natAbs).map fun k => ((k : Nat) : Int)) (by rw [List.length_map, List.length_range]; omega)
  rcases l with _ | l
  · rw [show triedL none r n = ((List.range n.natAbs).map fun k => ((k : Nat) : Int)).map fun (x : Int) => x.fmod n from rfl] at m1 m2
    simp only [eS_s, eE_n] at c1 ⊢
    simp! only [k__law_tried_v3, k__law_tried_v3_b, eE_n, abs_nat, r1, c1, m1, m2]
  rcases r with _ | r
  · rw [show triedL (some l) none n = ((List.range n.natAbs).map fun k => ((k : Nat) : Int)).map fun (x : Int) => x.fmod n from rfl] at m1 m2
    simp only [eS_s, eE_n, eE_s] at c1 ⊢
    simp! only [k__law_tried_v3, k__law_tried_v3_b, eE_n, eE_s, abs_nat, r1, c1, m1, m2]
  rw [show triedL (some l) (some r) n = (if (n.natAbs : Int) ≤ r - l then (List.range n.natAbs).map (fun k => ((k : Nat) : Int)) else (List.range (r + 1 - l).toNat).map (fun k => l + (k : Nat))).map fun (x : Int) => x.fmod n from rfl] at m1 m2
  simp only [eS_s, eE_n, eE_s] at c1 ⊢
  by_cases c : (n.natAbs : Int) ≤ r - l
  · rw [if_pos c] at m1 m2
    simp! only [k__law_tried_v3, k__law_tried_v3_b, eE_n, eE_s, abs_nat, r1, c1, m1, m2, c]
  · rw [if_neg c] at m1 m2
    have c2 := comp_mod hn (.val (.tuple [.int l, .int r])) .no ((List.range (r + 1 - l).toNat).map fun k => l + (k : Nat)) (by rw [List.length_map, List.length_range]; omega)
    simp! only [k__law_tried_v3, k__law_tried_v3_b, eE_n, eE_s, abs_nat, range_ints, c2, m1, m2, c]
theorem k27_two_ok (h1 : ModF f) (hs : SameOk 2 g) (h3 : ∀ a b, dvS (aboveS b) → dvS (aboveS (backS b)) → h [.val (eS a), .val (eS b)] = some (.val (eS (modS a b)), [])) {a b : SS} (ha : okS a = true) (hb : okS b = true) (hz : szS (2 ^ 200) b) :
    k__law_two_right_v4 f g h [.val (eS a), .val (eS b)] = some (.val (.bool true), []) := by
  have s := hs (.tuple [eS (modS a b), eS (modS a b)]) (gd_tup 1 _ (by simp) (all_cons (gd_eS 0 _) (all_cons (gd_eS 0 _) all_nil)))
  simp! only [k__law_two_right_v4, k__law_two_right_v4_b, h1 a b ha hb hz, h3 a b (dv_above hz) (dv_above (sz_back hz)), s]
theorem mod_within (a : SS) {n : Int} (hn : 1 ≤ n) : withinS (modS a (some (some n, some n))) (some (some 0, some (n - 1))) = true := by
  rcases a with _ | ⟨l, r⟩
  · rw [modS_none]; rfl
  rw [mod_pos l r hn]
  rcases modBy_cases l r n with ⟨u, v, rfl, rfl, hq, e⟩ | ⟨-, e⟩
  · rw [e]
    have b1 := Int.emod_nonneg u (b := n) (by omega)
    have b2 := Int.emod_lt_of_pos v (b := n) (by omega)
    simp [withinS, lowW, highW]
    omega
  · rw [e]
    simp [withinS, lowW, highW]
theorem k27_wrap_ok {wi mo wr sa le tr : Fn} (h1 : ∀ a b, okS a = true → okS b = true → wi [.val (eS a), .val (eS b)] = some (.val (.bool (withinS a b)), [])) (h2 : ModF mo)
    (h3 : ∀ a (n : Nat), okS a = true → 1 ≤ n ∧ n ≤ 16 → wr [.val (eS a), .val (.int (n : Nat))] = some (.val (eS (modS a (some (some (2 ^ n), some (2 ^ n))))), [])) (hs : SameOk 2 sa)
    (h4 : ∀ a b, dvS (aboveS b) → dvS (aboveS (backS b)) → le [.val (eS a), .val (eS b)] = some (.val (eS (modS a b)), [])) (h5 : ∀ l r (n : Int), n ≠ 0 → n.natAbs ≤ 65536 → okS (some (l, r)) = true → tr [.val (eS (some (l, r))), .val (.int n)] = some (.val (eS (modS (some (l, r)) (some (some n, some n)))), []))
    {a : SS} (ha : okS a = true) {n : Nat} (hn : 1 ≤ n ∧ n ≤ 16) : k__law_wrapped_right wi mo wr sa le tr [.val (eS a), .val (.int (n : Nat))] = some (.val (.bool true), []) := by
  obtain ⟨p1, p2⟩ := pow_sz hn.2
  obtain ⟨o1, z1⟩ := one_sz (n := 2 ^ n) (by omega) p2
  have hl : ∃ s3, Fr s3 ∧ forL (gN 3) (sSet 2 (rV (eOp gMul (eVar 2) (eC (.int 2))))) (rangeD 0 ((n : Int) - 0).toNat) [.val (eS a), .val (.int (n : Nat)), .val (.int 1), .no, .no, .no] = some (.nx, [.val (eS a), .val (.int (n : Nat)), .val (.int (2 ^ n)), s3, .no, .no]) := by
    obtain ⟨e, he, s3, rfl, f3⟩ := forL_cnt (g := gN 3) (b := sSet 2 (rV (eOp gMul (eVar 2) (eC (.int 2))))) (I := fun m e => ∃ s3, e = [.val (eS a), .val (.int (n : Nat)), .val (.int (2 ^ m)), s3, .no, .no] ∧ Fr s3) (rangeD 0 ((n : Int) - 0).toNat) 0 [.val (eS a), .val (.int (n : Nat)), .val (.int 1), .no, .no, .no]
      ⟨.no, rfl, rfl⟩ (by
        rintro d hd m e hm ⟨s3, rfl, f3⟩
        rw [show (rangeD 0 ((n : Int) - 0).toNat).length = n by unfold rangeD; rw [List.length_map, List.length_range]; omega] at hm
        have hm2 : (2 : Int) ^ m ≤ 65536 := (pow_sz (w := m) (by omega)).2
        have hm1 : (1 : Int) ≤ 2 ^ m := (pow_sz (w := m) (by omega)).1
        have mm : mulOk ((2 : Int) ^ m) 2 = true := mulOk_lt (a := 20) (b := 3) (by omega) (by decide) (by decide)
        refine ⟨[.val (eS a), .val (.int (n : Nat)), .val (.int (2 ^ m)), .val d, .no, .no], [.val (eS a), .val (.int (n : Nat)), .val (.int (2 ^ (m + 1))), .val d, .no, .no], ?_, ?_, .val d, rfl, rfl⟩
        · simp! only [show isPar s3 = false from f3]
        · simp! only [q_mulI mm, Int.pow_succ])
    rw [show 0 + (rangeD 0 ((n : Int) - 0).toNat).length = n by unfold rangeD; rw [List.length_map, List.length_range]; omega] at he
    exact ⟨s3, f3, he⟩
  obtain ⟨s3, f3, he⟩ := hl
  generalize hP : (2 : Int) ^ n = P at *
  have l1 := h4 a (some (some P, some P)) (dv_above z1) (dv_above (sz_back z1))
  have m1 := h2 a (some (some P, some P)) ha o1 z1
  have w1 := h3 a n ha hn
  have w2 := h1 (modS a (some (some P, some P))) (some (some 0, some (P - 1))) (ok_mod ha) (decide_eq_true (by omega))
  rw [mod_within a p1] at w2
  rw [hP] at w1
  have s1 := hs (.tuple [eS (modS a (some (some P, some P))), eS (modS a (some (some P, some P)))]) (gd_tup 1 _ (by simp) (all_cons (gd_eS 0 _) (all_cons (gd_eS 0 _) all_nil)))
  have s2 := hs (eS (modS a (some (some P, some P)))) (gd_eS 1 _)
  have s4 := hs (.tuple [.bool true, eS (modS a (some (some P, some P)))]) (gd_tup 1 _ (by simp) (all_cons (gd_bool _ _) (all_cons (gd_eS 0 _) all_nil)))
  have hq := q_neS a none
  rw [eS_n] at hq
  rcases a with _ | ⟨l, r⟩
  · simp only [eS_s, eE_s] at l1 m1 w2
    simp! only [k__law_wrapped_right, k__law_wrapped_right_b, he, show isPar s3 = false from f3, l1, m1, w1, w2, s1, s4, hq]
  have t1 := h5 l r P (by omega) (by omega) ha
  generalize (some (l, r) : SS) = a at *
  generalize modS a (some (some P, some P)) = m at *
  simp only [eS_s, eE_s] at l1 m1 w2
  by_cases c : (n : Int) < 7
  · simp! only [k__law_wrapped_right, k__law_wrapped_right_b, he, show isPar s3 = false from f3, l1, m1, w1, w2, s1, s2, s4, hq, c, t1]
  · simp! only [k__law_wrapped_right, k__law_wrapped_right_b, he, show isPar s3 = false from f3, l1, m1, w1, w2, s1, s2, s4, hq, c]
end
end Ev
namespace Ev
local macro_rules
  | `(tactic| simp! only [$as,*]) => `(tactic| simp only [↓x_var, ↓x_C, ↓x_op, ↓x_fz, ↓x_rV, ↓x_B, ↓x_chain, ↓x_tru, ↓x_notT, ↓x_andT, ↓x_orT, ↓x_and, ↓x_or, ↓x_not, ↓x_neg, ↓x_if, ↓x_aNil, ↓x_aVal, ↓x_aSlot, ↓x_aTmp, ↓x_aR, ↓x_call, ↓x_callK, ↓x_dNil, ↓x_dCons, ↓x_tup, ↓x_lst, ↓x_itemN, ↓x_ownItem, ↓x_lenN, ↓x_blt, ↓x_isi, ↓x_list, ↓x_rgL1, ↓x_rgL2, ↓x_iSeq, ↓x_iZip, ↓x_range1, ↓x_range2, ↓x_addR, ↓x_slice, ↓x_partN, ↓x_partS, ↓x_comp, ↓x_skip, ↓x_stuck, ↓x_break, ↓x_cont, ↓x_seq, ↓x_sIf, ↓x_sExpr, ↓x_ret, ↓x_retN, ↓x_move, ↓x_setRv, ↓x_setRf, ↓x_set, ↓x_gN, ↓x_gsNil, ↓x_gsCons, ↓x_gTup, ↓x_gIx, ↓x_setAt, ↓x_asg, ↓x_par, ↓x_sm0, ↓x_smV, ↓x_smF, ↓x_app, ↓x_for, ↓x_for0, ↓x_for1, ↓x_comp0, ↓x_comp1, ↓x_fn, ↓x_iEnum, ↓x_range3, ↓x_comp2, ↓x_compN0, ↓x_compN1, q_addI, q_addT, q_addL, q_subI, q_ltI, q_leI, q_gtI, q_geI, q_isN, q_isNotN, q_eqI, q_neI, q_eqB, q_eqT0, q_eqT1, q_neT0, q_neT1, q_eqL0, q_eqL1, q_neL0, q_neL1, q_int, q_abs, q_min2, q_max2, q_at0, q_at1, q_at2, q_at3, q_ix0, q_ix1, q_ix2, q_sz, q_iteS, q_iteT, q_iteR, q_iteV, q_iteBB, q_iteII, q_iteAnd, q_iteOr, q_iteNot, q_iteCon, q_pa0, q_pa1, q_pa2, q_pa3, q_ow0, q_ow1, q_ow2, q_ow3, q_c0, q_c1, q_c2, q_c3, q_c4, q_c5, q_c6, q_c7, q_c8, q_c9, q_c10, q_c11, q_c12, q_all0, q_all1, q_all2, q_all3, q_inN2, q_inN0, q_02a, q_02b, List.getElem?_cons_zero, List.getElem?_cons_succ, List.set_cons_zero, List.set_cons_succ, wipeE, initE, outsOf, toAv, slotsOf, putOuts, natNodup, List.map_cons, List.map_nil, List.cons_append, List.nil_append, List.append_nil, List.replicate, List.length_cons, List.length_nil, isNone, isiD, seqD, gItem, truD, zipOf, zipD, pick, List.contains_nil, List.contains_cons, eq_self, if_true, if_false, Bool.false_eq_true, Bool.true_eq_false, Bool.not_true, Bool.not_false, reduceIte, decide_true, decide_false, Nat.reduceAdd, Nat.reduceSub, Nat.zero_add, Nat.add_zero, and_self, true_and, and_true, Bool.and_true, Bool.true_and, Bool.or_false, Bool.false_or, Bool.or_true, Bool.true_or, Bool.and_false, Bool.false_and, Bool.or_self, Bool.and_self, Nat.sub_self, Option.map_some, Option.map_none, Nat.reduceBEq, Bool.not_eq_true, beq_self_eq_true, Nat.reduceLeDiff, Nat.reduceLT, Nat.reduceEqDiff, List.filterMap_cons, List.filterMap_nil, $as,*])
open PySem PySem.Spec PyProof.Rows L2
/-- a body that ends with True, its source of numbers in slot 0 -/
def RunT (b : Fx Fl) (e : En) : Prop := ∃ e' d, b e = some (.rt (.val (.bool true)), e') ∧ e'[0]? = some (.par d)
theorem runT_nx {f g : Fx Fl} {e e1 : En} (h1 : f e = some (.nx, e1)) (h2 : RunT g e1) : RunT (sSeq f g) e := by
  obtain ⟨e', d, h3, h4⟩ := h2
  exact ⟨e', d, seq_nx h1 h3, h4⟩
theorem runT_rt {f g : Fx Fl} {e e1 : En} {d : List D} (h1 : f e = some (.rt (.val (.bool true)), e1)) (h2 : e1[0]? = some (.par d)) : RunT (sSeq f g) e := ⟨e1, d, seq_rt h1, h2⟩
theorem rg_of {n : Nat} {b : Fx Fl} {ds : List D} (h : RunT b (initE n [.own ds])) : ∃ ds', callFn n b [.own ds] = some (.val (.bool true), [ds']) := by
  obtain ⟨e, d, h1, h2⟩ := h
  refine ⟨d, fn_rt h1 ?_⟩
  simp only [outsOf, h2, Option.map_some]
theorem szS.up {a : SS} {z : Int} (h : szS z a) (hz : z ≤ 2 ^ 200) : szS (2 ^ 200) a := h.mono hz
theorem q_ne0 {x : Int} : gNe (.int x) (.int 0) = some (.bool (!decide (x = 0))) := by
  have h := q_neE (some x) (some 0)
  simp only [Option.some.injEq] at h
  exact h
theorem k27_right_ok {ho mo ta st nr inn sa tr tw wr : Fn} (h0 : ∀ a k, okS a = true → ho [.val (eS a), .val (.int k)] = some (.val (.bool (hasS a k)), [])) (M : ModF mo) (T : Tk ta) (S : St 9 (2 ^ 111) st) (R : Nr 10 nr) (I : Inn inn) (hs : SameOk 2 sa)
    (h5 : ∀ l r (n : Int), n ≠ 0 → n.natAbs ≤ 65536 → okS (some (l, r)) = true → tr [.val (eS (some (l, r))), .val (.int n)] = some (.val (eS (modS (some (l, r)) (some (some n, some n)))), []))
    (h6 : ∀ a b, okS a = true → okS b = true → szS (2 ^ 200) b → tw [.val (eS a), .val (eS b)] = some (.val (.bool true), [])) (h7 : ∀ a (n : Nat), okS a = true → 1 ≤ n ∧ n ≤ 16 → wr [.val (eS a), .val (.int (n : Nat))] = some (.val (.bool true), [])) : Rg (k__law_right_v5 ho mo ta st nr inn sa tr tw wr) := by
  intro ds h
  obtain ⟨a, d1, e1, oa, za, s1⟩ := S 99999000 ds (h.mono (by decide))
  obtain ⟨v2, d2, e2, p2, q2, s2⟩ := T 99998000 d1 129 (s1.mono (by decide)) (by decide) (by decide)
  obtain ⟨v3, d3, e3, p3, q3, s3⟩ := T 99997000 d2 16 (s2.mono (by decide)) (by decide) (by decide)
  obtain ⟨v4, d4, e4, p4, q4, s4⟩ := T 99996000 d3 3 (s3.mono (by decide)) (by decide) (by decide)
  obtain ⟨n, hn⟩ : ∃ n : Nat, 1 + v3 = (n : Int) := ⟨(1 + v3).toNat, by omega⟩
  have hn2 : 1 ≤ n ∧ n ≤ 16 := by omega
  have za := za.up (by decide)
  have h2 : ∃ b d5, okS b = true ∧ szS (2 ^ 200) b ∧ Src 99995000 d5 ∧ (sSet 1 (eIf (eB (eOp gGt (eFz (eCall ta (aSlot 0 (aVal (eC (.int 3)) aNil)))) (eC (.int 0)))) (eCall nr (aSlot 0 (aVal (eTup (dCons (eC (.int 0)) dNil)) aNil))) (eCall st (aSlot 0 aNil)))) [.par d3, .no, .val (.int (v2 - 64)), .no, .val (eS a), .val (.int (n : Nat)), .no, .no] =
      some (.nx, [.par d5, .val (eS b), .val (.int (v2 - 64)), .no, .val (eS a), .val (.int (n : Nat)), .no, .no]) := by
    by_cases c : 0 < v4
    · obtain ⟨b, d5, e5, ob, zb, s5⟩ := R 99995000 d4 [some 0] (2 ^ 111) (s4.mono (by decide)) (fun e he => by rw [List.mem_singleton.mp he]; exact ⟨by decide, by decide⟩) (by decide) (by decide)
      refine ⟨b, d5, ob, zb.mono (by decide), s5, ?_⟩
      simp only [List.map_cons, List.map_nil, eE_s] at e5
      simp! only [e4, c, e5]
    · obtain ⟨b, d5, e5, ob, zb, s5⟩ := S 99995000 d4 (s4.mono (by decide))
      refine ⟨b, d5, ob, zb.mono (by decide), s5, ?_⟩
      simp! only [e4, c, e5]
  obtain ⟨b, d5, ob, zb, s5, h2⟩ := h2
  have h3 : ∃ y : Int, y ≠ 0 ∧ y.natAbs ≤ 65536 ∧ (sSet 2 (eIf (eB (eOp gNe (eVar 2) (eC (.int 0)))) (eMove 2) (rV (eC (.int 7))))) [.par d5, .val (eS b), .val (.int (v2 - 64)), .no, .val (eS a), .val (.int (n : Nat)), .no, .no] = some (.nx, [.par d5, .val (eS b), .val (.int y), .no, .val (eS a), .val (.int (n : Nat)), .no, .no]) := by
    have hg := q_ne0 (x := v2 - 64)
    by_cases c : v2 - 64 = 0
    · refine ⟨7, by decide, by decide, ?_⟩
      simp! only [hg, c]
    · refine ⟨v2 - 64, c, by omega, ?_⟩
      simp! only [hg, c]
  obtain ⟨y, hy0, hy1, h3⟩ := h3
  obtain ⟨oy, zy⟩ := one_sz (n := y) (by omega) (by omega)
  have t1 := h6 a b oa ob zb
  have t2 := h6 b a ob oa za
  have t3 := h6 a (some (some y, some y)) oa oy zy
  have w1 := h7 a n oa hn2
  have w2 := h7 b n ob hn2
  have m1 := M a (some (some y, some y)) oa oy zy
  have m2 := M a b oa ob zb
  have om : okS (modS a b) = true := ok_mod oa
  have n0 : gEq (eS a) (.tuple []) = some (.bool (decide (a = none))) := q_eqS a none
  have n1 : gEq (eS b) (.tuple []) = some (.bool (decide (b = none))) := q_eqS b none
  have n2 : gNe (eS a) (.tuple []) = some (.bool (!decide (a = none))) := q_neS a none
  have sa1 := hs (eS (modS a (some (some y, some y)))) (gd_eS 1 _)
  have sa2 := hs (.bool true) rfl
  simp only [eS_s, eE_s] at t3 m1
  refine rg_of (n := 8) (b := k__law_right_v5_b ho mo ta st nr inn sa tr tw wr) ?_
  unfold k__law_right_v5_b
  refine runT_nx (e1 := [.par d3, .no, .val (.int (v2 - 64)), .no, .val (eS a), .val (.int (n : Nat)), .no, .no]) ?_ (runT_nx h2 (runT_nx h3 (runT_nx (e1 := [.par d5, .val (eS b), .val (.int y), .no, .val (eS a), .val (.int (n : Nat)), .no, .no]) ?_ (runT_nx (e1 := [.par d5, .val (eS b), .val (.int y), .no, .val (eS a), .val (.int (n : Nat)), .no, .no]) ?_
    (runT_nx (e1 := [.par d5, .val (eS b), .val (.int y), .no, .val (eS a), .val (.int (n : Nat)), .no, .no]) ?_ ?_)))))
  · simp! only [e1, e2, e3, hn]
  · simp! only [t1, t2, t3]
  · simp! only [w1, w2]
  · by_cases ca : a = none
    · simp! only [n2, decide_eq_true ca]
    · have trr : tr [.val (eS a), .val (.int y)] = some (.val (eS (modS a (some (some y, some y)))), []) := by
        rcases a with _ | ⟨l, r⟩
        · exact absurd rfl ca
        · exact h5 l r y hy0 hy1 oa
      simp! only [n2, decide_eq_false ca, m1, trr, sa1]
  by_cases ca : a = none
  · refine runT_rt (d := d5) (e1 := [.par d5, .val (eS b), .val (.int y), .no, .val (eS a), .val (.int (n : Nat)), .no, .no]) ?_ rfl
    simp! only [n0, decide_eq_true ca]
  by_cases cb : b = none
  · refine runT_rt (d := d5) (e1 := [.par d5, .val (eS b), .val (.int y), .no, .val (eS a), .val (.int (n : Nat)), .no, .no]) ?_ rfl
    simp! only [n0, n1, decide_eq_true cb, decide_eq_false ca]
  obtain ⟨⟨a1, a2⟩, ha⟩ : ∃ z : EE × EE, a = some z := Option.ne_none_iff_exists'.mp ca
  obtain ⟨⟨b1, b2⟩, hbb⟩ : ∃ z : EE × EE, b = some z := Option.ne_none_iff_exists'.mp cb
  obtain ⟨e, he, d6, s3, s6, s7, rfl, -⟩ := forL_cnt (g := gN 3) (b := k__law_right_v5_l1 ho mo inn sa)
      (I := fun n' e => ∃ (d6 : List D) (s3 s6 s7 : Sl), e = [.par d6, .val (eS b), .val (.int y), s3, .val (eS a), .val (.int (n : Nat)), s6, s7] ∧ Fr s3 ∧ Fr s6 ∧ Fr s7 ∧ Src (16 * (4 - n')) d6) (rangeD 0 (4 - 0 : Int).toNat) 0 [.par d5, .val (eS b), .val (.int y), .no, .val (eS a), .val (.int (n : Nat)), .no, .no]
      ⟨d5, _, _, _, rfl, rfl, rfl, rfl, s5.mono (by decide)⟩ (by
        rintro d hd m e hm ⟨d6, s3, s6, s7, rfl, f3, f6, f7, g6⟩
        have hm4 : m < 4 := hm
        obtain ⟨x, d7, e7, hx7, g7⟩ := I (16 * (4 - (m + 1)) + 8) d6 a1 a2 (by rw [show 16 * (4 - (m + 1)) + 8 + 8 = 16 * (4 - m) by omega]; exact g6) (by rw [← ha]; exact oa)
        obtain ⟨w, d8, e8, hx8, g8⟩ := I (16 * (4 - (m + 1))) d7 b1 b2 g7 (by rw [← hbb]; exact ob)
        rw [← ha] at e7 hx7
        rw [← hbb] at e8 hx8
        have hw := q_ne0 (x := w)
        refine ⟨[.par d6, .val (eS b), .val (.int y), .val d, .val (eS a), .val (.int (n : Nat)), s6, s7], [.par d8, .val (eS b), .val (.int y), .val d, .val (eS a), .val (.int (n : Nat)), .val (.int x), .val (.int w)], ?_, ?_, d8, _, _, _, rfl, rfl, rfl, rfl, g8⟩
        · simp! only [show isPar s3 = false from f3]
        · by_cases c : w = 0
          · simp! only [k__law_right_v5_l1, show isPar s6 = false from f6, show isPar s7 = false from f7, e7, e8, hw, c]
          · have hm := has_mod hx7 hx8 c
            simp! only [k__law_right_v5_l1, show isPar s6 = false from f6, show isPar s7 = false from f7, e7, e8, hw, c, m2, q_fm c, h0 _ _ om, hm, sa2])
  refine runT_nx (e1 := [.par d5, .val (eS b), .val (.int y), .no, .val (eS a), .val (.int (n : Nat)), .no, .no]) ?_ (runT_nx (for_nx (ds := rangeD 0 (4 - 0 : Int).toNat) (e1 := [.par d5, .val (eS b), .val (.int y), .no, .val (eS a), .val (.int (n : Nat)), .no, .no]) ?_ he) ⟨[.par d6, .val (eS b), .val (.int y), s3, .val (eS a), .val (.int (n : Nat)), s6, s7], d6, ?_, rfl⟩)
  · simp! only [n0, n1, decide_eq_false cb, decide_eq_false ca]
  · simp! only [x_C]
  · simp! only [x_C]
/-! ### for the glue -/
abbrev ModD (f : Fn) : Prop := ∀ a b, dvS (aboveS b) → dvS (aboveS (backS b)) → f [.val (eS a), .val (eS b)] = some (.val (eS (modS a b)), [])
theorem gp_nm {g : Fn} (h : Gp g) : Nm 5 (2 ^ 110) g := fun b ds s => by
  obtain ⟨v, d, e, h1, h2, h3⟩ := h b ds s
  exact ⟨v, d, e, by omega, h2, h3⟩
theorem gd_up : ∀ (k : Nat) (d : D), gd k d = true → gd (k + 1) d = true
  | _, .none, _ => by cases ‹Nat› <;> rfl
  | _, .bool _, _ => by cases ‹Nat› <;> rfl
  | _, .int _, _ => by cases ‹Nat› <;> rfl
  | k + 1, .tuple xs, h => by
    obtain ⟨h1, h2⟩ := He.ba (show (decide (xs.length ≤ 1000) && xs.all (gd k)) = true from h)
    show (decide (xs.length ≤ 1000) && xs.all (gd (k + 1))) = true
    rw [h1, Bool.true_and]
    exact List.all_eq_true.mpr fun x hx => gd_up k x (List.all_eq_true.mp h2 x hx)
  | k, .str _, h => by cases k <;> cases h
  | k, .list _, h => by cases k <;> cases h
  | k, .dict _, h => by cases k <;> cases h
theorem SameOk.down {k : Nat} {g : Fn} (h : SameOk (k + 1) g) : SameOk k g := fun d hd => h d (gd_up k d hd)
theorem same2 {g : Fn} (h : SameOk 3 g) : SameOk 2 g := h.down
end Ev
namespace Ev
open PySem PySem.Spec PyProof.Rows L2
/-! ## rests -/
abbrev RR := Option (Int × Int)
def eR : RR → D
  | none => .tuple []
  | some (r, m) => .tuple [.int r, .int m]
theorem eR_n : eR none = .tuple [] := rfl
theorem eR_s {r m : Int} : eR (some (r, m)) = .tuple [.int r, .int m] := rfl
def okR : RR → Bool
  | none => true
  | some (r, m) => decide (m = 0 ∨ (0 < m ∧ 20160 % m = 0 ∧ 0 ≤ r ∧ r < m))
def hasR : RR → Int → Bool
  | none, _ => false
  | some (r, m), k => decide (m ∣ k - r)
def withinR : RR → RR → Bool
  | none, _ => true
  | some _, none => false
  | some (r, m), some (s, n) => decide (n ∣ r - s) && decide (n ∣ m)
def restBy (x g : Int) : RR := if g = 0 then some (x, 0) else some (x % g, g)
def grain (g : Nat) : Int := if g = 0 then 0 else (Nat.gcd g 20160 : Nat)
def joinR : RR → RR → RR
  | none, b => b
  | some a, none => some a
  | some (r, m), some (s, n) => restBy r (grain (gcd3 m n (r - s)))
def gcdL (n : Int) : List Int → Nat → Nat
  | [], g => g
  | x :: xs, g => gcdL n xs (Nat.gcd g (x - n).natAbs)
def leastR : List Int → RR
  | [] => none
  | n :: ns => restBy n (grain (gcdL n (n :: ns) 0))
def twoOf : RR → List Int
  | none => []
  | some (r, m) => [r, r + m]
/-! ### divisibility -/
theorem dvd_abs {d : Nat} {x : Int} : d ∣ x.natAbs ↔ (d : Int) ∣ x := Int.ofNat_dvd_left.symm
theorem gcdL_dvd {d : Nat} {n : Int} : ∀ {xs : List Int} {g : Nat}, d ∣ gcdL n xs g ↔ d ∣ g ∧ ∀ x ∈ xs, (d : Int) ∣ x - n
  | [], g => by simp [gcdL]
  | x :: xs, g => by
    show d ∣ gcdL n xs _ ↔ _
    rw [gcdL_dvd, Nat.dvd_gcd_iff, dvd_abs]
    simp only [List.mem_cons, forall_eq_or_imp]
    exact ⟨fun ⟨⟨a, b⟩, c⟩ => ⟨a, b, c⟩, fun ⟨a, b, c⟩ => ⟨⟨a, b⟩, c⟩⟩
theorem nat_eq_of_dvd {a b : Nat} (h : ∀ d : Nat, d ∣ a ↔ d ∣ b) : a = b := Nat.dvd_antisymm ((h a).mp (Nat.dvd_refl _)) ((h b).mpr (Nat.dvd_refl _))
theorem gcd3_dvd {d : Nat} {a b c : Int} : d ∣ gcd3 a b c ↔ (d : Int) ∣ a ∧ (d : Int) ∣ b ∧ (d : Int) ∣ c := by
  unfold gcd3
  rw [Nat.dvd_gcd_iff, Nat.dvd_gcd_iff, dvd_abs, dvd_abs, dvd_abs, and_assoc]
theorem dvd_neg' {d x y : Int} (h : y = -x) : d ∣ y ↔ d ∣ x := by rw [h, Int.dvd_neg]
theorem gcd_two {r m s n : Int} : gcdL r [r, r + m, s, s + n] 0 = gcd3 m n (r - s) := nat_eq_of_dvd fun d => by
  rw [gcdL_dvd, gcd3_dvd]
  simp only [List.mem_cons, List.not_mem_nil, or_false, forall_eq_or_imp, forall_eq, Int.sub_self, Nat.dvd_zero, Int.dvd_zero, true_and]
  rw [show r + m - r = m by omega]
  constructor
  · rintro ⟨h1, h2, h3⟩
    refine ⟨h1, ?_, (dvd_neg' (x := s - r) (by omega)).mpr h2⟩
    have := Int.dvd_sub h3 h2
    rwa [show s + n - r - (s - r) = n by omega] at this
  · rintro ⟨h1, h2, h3⟩
    have h4 := (dvd_neg' (x := r - s) (y := s - r) (by omega)).mpr h3
    refine ⟨h1, h4, ?_⟩
    have := Int.dvd_add h2 h4
    rwa [show n + (s - r) = s + n - r by omega] at this
theorem ok_r {r m : Int} (h : okR (some (r, m)) = true) : m = 0 ∨ (0 < m ∧ m ∣ 20160 ∧ 0 ≤ r ∧ r < m) := by
  rcases of_decide_eq_true h with h | ⟨h1, h2, h3⟩
  · exact .inl h
  · exact .inr ⟨h1, Int.dvd_of_emod_eq_zero h2, h3⟩
theorem ok_of {r m : Int} (h : m = 0 ∨ (0 < m ∧ m ∣ 20160 ∧ 0 ≤ r ∧ r < m)) : okR (some (r, m)) = true := decide_eq_true (by
  rcases h with h | ⟨h1, h2, h3⟩
  · exact .inl h
  · exact .inr ⟨h1, Int.emod_eq_zero_of_dvd h2, h3⟩)
theorem ok_nn {r m : Int} (h : okR (some (r, m)) = true) : 0 ≤ m ∧ m ≤ 20160 := by
  rcases ok_r h with rfl | ⟨h1, h2, -⟩
  · omega
  · exact ⟨by omega, Int.le_of_dvd (by decide) h2⟩
theorem grain_ok (g : Nat) : grain g = 0 ∨ (0 < grain g ∧ grain g ∣ 20160) := by
  unfold grain
  split
  · exact .inl rfl
  · right
    have h1 := Nat.gcd_pos_of_pos_right g (show 0 < 20160 by decide)
    have h2 := Nat.gcd_dvd_right g 20160
    exact ⟨by omega, by exact_mod_cast h2⟩
theorem grain_dvd {g : Nat} : grain g ∣ (g : Int) := by
  unfold grain
  split
  · rename_i h; subst h; exact Int.dvd_refl _
  · exact_mod_cast Nat.gcd_dvd_left g 20160
theorem grain_self {m : Int} (h : m = 0 ∨ (0 < m ∧ m ∣ 20160)) : grain m.natAbs = m := by
  rcases h with rfl | ⟨h1, h2⟩
  · rfl
  · unfold grain
    rw [if_neg (by omega)]
    have h3 : m.natAbs ∣ 20160 := by
      have := Int.natAbs_dvd_natAbs.mpr h2
      exact this
    rw [Nat.gcd_eq_left h3]
    omega
theorem dvd_grain {d : Int} {g : Nat} (h : d ∣ (g : Int)) (h2 : d = 0 ∨ d ∣ 20160) : d ∣ grain g := by
  unfold grain
  split
  · exact Int.dvd_zero _
  · rename_i hg
    rcases h2 with rfl | h2
    · have := Int.zero_dvd.mp h
      omega
    · rw [← Int.natAbs_dvd]
      have a1 : d.natAbs ∣ g := by
        have := Int.natAbs_dvd_natAbs.mpr h
        simpa using this
      have a2 : d.natAbs ∣ 20160 := by
        have := Int.natAbs_dvd_natAbs.mpr h2
        exact this
      exact_mod_cast Nat.dvd_gcd a1 a2
theorem ok_restBy (x : Int) {g : Int} (h : g = 0 ∨ (0 < g ∧ g ∣ 20160)) : okR (restBy x g) = true := by
  unfold restBy
  rcases h with rfl | ⟨h1, h2⟩
  · rw [if_pos rfl]; exact ok_of (.inl rfl)
  · rw [if_neg (by omega)]
    exact ok_of (.inr ⟨h1, h2, Int.emod_nonneg _ (by omega), Int.emod_lt_of_pos _ h1⟩)
theorem ok_joinR {a b : RR} (ha : okR a = true) (hb : okR b = true) : okR (joinR a b) = true := by
  rcases a with _ | ⟨r, m⟩
  · exact hb
  rcases b with _ | ⟨s, n⟩
  · exact ha
  exact ok_restBy _ (grain_ok _)
/-- what a rest made by a divisor holds -/
theorem restBy_eq {x : Int} {g : Int} : ∃ r, restBy x g = some (r, g) ∧ g ∣ x - r := by
  unfold restBy
  split
  · rename_i h; subst h; exact ⟨x, rfl, by simp⟩
  · exact ⟨x % g, rfl, Int.dvd_self_sub_emod⟩
theorem restBy_self {r m : Int} (h : okR (some (r, m)) = true) : restBy r m = some (r, m) := by
  unfold restBy
  rcases ok_r h with rfl | ⟨h1, -, h3, h4⟩
  · rw [if_pos rfl]
  · rw [if_neg (by omega), Int.emod_eq_of_lt h3 h4]
theorem least_two {a : RR} (h : okR a = true) : leastR (twoOf a) = a := by
  rcases a with _ | ⟨r, m⟩
  · rfl
  · show restBy r (grain (gcdL r [r, r + m] 0)) = _
    have e : gcdL r [r, r + m] 0 = m.natAbs := by
      show Nat.gcd (Nat.gcd 0 (r - r).natAbs) (r + m - r).natAbs = _
      rw [show r + m - r = m by omega, show r - r = 0 by omega]
      simp
    rw [e, grain_self (by rcases ok_r h with h | ⟨h1, h2, -⟩; exact .inl h; exact .inr ⟨h1, h2⟩), restBy_self h]
theorem least_join {a b : RR} (ha : okR a = true) (hb : okR b = true) : leastR (twoOf a ++ twoOf b) = joinR a b := by
  rcases a with _ | ⟨r, m⟩
  · exact least_two hb
  rcases b with _ | ⟨s, n⟩
  · exact least_two ha
  show restBy r (grain (gcdL r [r, r + m, s, s + n] 0)) = restBy r (grain (gcd3 m n (r - s)))
  rw [gcd_two]
/-! ### within -/
theorem within_some {r m s n : Int} : withinR (some (r, m)) (some (s, n)) = true ↔ n ∣ r - s ∧ n ∣ m := by
  show (decide _ && decide _) = true ↔ _
  simp
theorem withinR_refl (a : RR) : withinR a a = true := by
  rcases a with _ | ⟨r, m⟩
  · rfl
  · exact within_some.mpr ⟨by simp, Int.dvd_refl _⟩
theorem withinR_trans {a b c : RR} (h1 : withinR a b = true) (h2 : withinR b c = true) : withinR a c = true := by
  rcases a with _ | ⟨r, m⟩
  · rfl
  rcases b with _ | ⟨s, n⟩
  · cases h1
  rcases c with _ | ⟨t, k⟩
  · cases h2
  obtain ⟨a1, a2⟩ := within_some.mp h1
  obtain ⟨b1, b2⟩ := within_some.mp h2
  refine within_some.mpr ⟨?_, Int.dvd_trans b2 a2⟩
  have := Int.dvd_add (Int.dvd_trans b2 a1) b1
  rwa [show r - s + (s - t) = r - t by omega] at this
theorem withinR_anti {a b : RR} (ha : okR a = true) (hb : okR b = true) (h1 : withinR a b = true) (h2 : withinR b a = true) : a = b := by
  rcases a with _ | ⟨r, m⟩
  · rcases b with _ | ⟨s, n⟩
    · rfl
    · cases h2
  rcases b with _ | ⟨s, n⟩
  · cases h1
  obtain ⟨a1, a2⟩ := within_some.mp h1
  obtain ⟨b1, b2⟩ := within_some.mp h2
  have hm := ok_nn ha
  have hn := ok_nn hb
  have e : m = n := Int.dvd_antisymm hm.1 hn.1 b2 a2
  subst e
  have : r = s := by
    rcases ok_r ha with rfl | ⟨h1, -, h3, h4⟩
    · have := Int.zero_dvd.mp a1; omega
    · rcases ok_r hb with rfl | ⟨-, -, h5, h6⟩
      · omega
      · have h7 := Int.emod_emod_of_dvd (r - s) (Int.dvd_refl m)
        have h8 := Int.emod_eq_zero_of_dvd a1
        have h9 : r % m = s % m := (Int.emod_eq_emod_iff_emod_sub_eq_zero).mpr h8
        rw [Int.emod_eq_of_lt h3 h4, Int.emod_eq_of_lt h5 h6] at h9
        exact h9
  rw [this]
theorem within_join1 (a b : RR) : withinR a (joinR a b) = true ∧ withinR b (joinR a b) = true := by
  rcases a with _ | ⟨r, m⟩
  · exact ⟨rfl, withinR_refl b⟩
  rcases b with _ | ⟨s, n⟩
  · exact ⟨withinR_refl _, rfl⟩
  obtain ⟨x, e, hx⟩ := restBy_eq (x := r) (g := grain (gcd3 m n (r - s)))
  have e2 : joinR (some (r, m)) (some (s, n)) = some (x, grain (gcd3 m n (r - s))) := e
  rw [e2]
  obtain ⟨d1, d2, d3⟩ := gcd3_dvd.mp (Nat.dvd_refl (gcd3 m n (r - s)))
  have hg := grain_dvd (g := gcd3 m n (r - s))
  refine ⟨within_some.mpr ⟨hx, Int.dvd_trans hg d1⟩, within_some.mpr ⟨?_, Int.dvd_trans hg d2⟩⟩
  have := Int.dvd_sub hx (Int.dvd_trans hg d3)
  rwa [show r - x - (r - s) = s - x by omega] at this
theorem join_least {a b c : RR} (hc : okR c = true) (h1 : withinR a c = true) (h2 : withinR b c = true) : withinR (joinR a b) c = true := by
  rcases a with _ | ⟨r, m⟩
  · exact h2
  rcases b with _ | ⟨s, n⟩
  · exact h1
  rcases c with _ | ⟨t, k⟩
  · cases h1
  obtain ⟨a1, a2⟩ := within_some.mp h1
  obtain ⟨b1, b2⟩ := within_some.mp h2
  obtain ⟨x, e, hx⟩ := restBy_eq (x := r) (g := grain (gcd3 m n (r - s)))
  have e2 : joinR (some (r, m)) (some (s, n)) = some (x, grain (gcd3 m n (r - s))) := e
  rw [e2]
  have hrs : k ∣ r - s := by
    have := Int.dvd_sub a1 b1
    rwa [show r - t - (s - t) = r - s by omega] at this
  have hk : k ∣ ((gcd3 m n (r - s) : Nat) : Int) := by
    rw [← Int.natAbs_dvd]
    have := (gcd3_dvd (d := k.natAbs) (a := m) (b := n) (c := r - s)).mpr ⟨Int.natAbs_dvd.mpr a2, Int.natAbs_dvd.mpr b2, Int.natAbs_dvd.mpr hrs⟩
    exact_mod_cast this
  have hg : k ∣ grain (gcd3 m n (r - s)) := dvd_grain hk (by rcases ok_r hc with h | ⟨-, h, -⟩; exact .inl h; exact .inr h)
  refine within_some.mpr ⟨?_, hg⟩
  have := Int.dvd_sub a1 (Int.dvd_trans hg hx)
  rwa [show r - t - (r - x) = x - t by omega] at this
theorem join_stays {a b : RR} (ha : okR a = true) (hb : okR b = true) (h : withinR b a = true) : joinR a b = a :=
  withinR_anti (ok_joinR ha hb) ha (join_least ha (withinR_refl a) h) (within_join1 a b).1
/-! ### ranks -/
def cntP (p : Nat) : Nat → Nat → Nat
  | 0, _ => 0
  | f + 1, m => if m % p = 0 then 1 + cntP p f (m / p) else 0
def Om (m : Nat) : Nat := cntP 2 6 m + cntP 3 6 m + cntP 5 6 m + cntP 7 6 m
def divsL : List Nat := (List.range 20161).filter fun m => decide (0 < m ∧ 20160 % m = 0)
def divs84 : List Nat := [1, 2, 3, 4, 5, 6, 7, 8, 9, 10, 12, 14, 15, 16, 18, 20, 21, 24, 28, 30, 32, 35, 36, 40, 42, 45, 48, 56, 60, 63, 64, 70, 72, 80, 84, 90, 96, 105, 112, 120, 126, 140, 144, 160, 168, 180, 192, 210, 224, 240, 252, 280, 288, 315, 320, 336, 360, 420, 448, 480, 504, 560, 576, 630, 672, 720, 840, 960, 1008, 1120, 1260, 1344, 1440, 1680, 2016, 2240, 2520, 2880, 3360, 4032, 5040, 6720, 10080, 20160]
theorem divs_all : ((List.range 20161).all fun m => decide (m = 0) || (!decide (20160 % m = 0) || divs84.contains m)) = true := by decide +kernel
theorem divs_mem {m : Int} (h : 0 < m) (h2 : m ∣ 20160) : m.natAbs ∈ divs84 := by
  have hle : m ≤ 20160 := Int.le_of_dvd (by decide) h2
  have := List.all_eq_true.mp divs_all m.natAbs (List.mem_range.mpr (by omega))
  have h3 : m.natAbs ∣ 20160 := by
    have := Int.natAbs_dvd_natAbs.mpr h2
    exact this
  have h4 : 20160 % m.natAbs = 0 := Nat.mod_eq_zero_of_dvd h3
  have h5 : ¬ m.natAbs = 0 := by omega
  rw [decide_eq_false h5, decide_eq_true h4] at this
  simpa using this
theorem om_all : (divs84.all fun n => divs84.all fun m => !decide (m % n = 0) || (decide (n = m) || decide (Om n < Om m))) = true := by decide +kernel
theorem om_le : (divs84.all fun n => decide (Om n ≤ 10)) = true := by decide +kernel
theorem om_lt {n m : Int} (hn : 0 < n) (hm : 0 < m) (h1 : n ∣ 20160) (h2 : m ∣ 20160) (h : n ∣ m) (hne : n ≠ m) : Om n.natAbs < Om m.natAbs := by
  have := List.all_eq_true.mp (List.all_eq_true.mp om_all _ (divs_mem hn h1)) _ (divs_mem hm h2)
  have h3 : m.natAbs % n.natAbs = 0 := Nat.mod_eq_zero_of_dvd (Int.natAbs_dvd_natAbs.mpr h)
  have h4 : ¬ n.natAbs = m.natAbs := by omega
  rw [decide_eq_true h3, decide_eq_false h4] at this
  simpa using this
def rankR : RR → Int
  | none => 12
  | some (_, m) => if m = 0 then 11 else (Om m.natAbs : Nat)
theorem rankR_lt {a c : RR} (ha : okR a = true) (hc : okR c = true) (h : withinR a c = true) (hne : a ≠ c) : rankR c < rankR a := by
  have small : ∀ {n : Int}, 0 < n → n ∣ 20160 → Om n.natAbs ≤ 10 := fun h1 h2 => of_decide_eq_true (List.all_eq_true.mp om_le _ (divs_mem h1 h2))
  rcases c with _ | ⟨s, n⟩
  · rcases a with _ | ⟨r, m⟩
    · exact absurd rfl hne
    · cases h
  rcases a with _ | ⟨r, m⟩
  · show (if n = 0 then (11 : Int) else (Om n.natAbs : Nat)) < 12
    split
    · decide
    · rcases ok_r hc with h | ⟨h1, h2, -⟩
      · omega
      · have := small h1 h2; omega
  · obtain ⟨a1, a2⟩ := within_some.mp h
    show (if n = 0 then (11 : Int) else (Om n.natAbs : Nat)) < (if m = 0 then (11 : Int) else (Om m.natAbs : Nat))
    rcases ok_r hc with rfl | ⟨h1, h2, h3, h4⟩
    · have e1 := Int.zero_dvd.mp a1
      have e2 := Int.zero_dvd.mp a2
      exact absurd (by rw [e2, show r = s by omega]) hne
    · rw [if_neg (by omega)]
      rcases ok_r ha with rfl | ⟨h5, h6, h7, h8⟩
      · have := small h1 h2
        rw [if_pos rfl]; omega
      · rw [if_neg (by omega)]
        have hmn : n ≠ m := fun e => by
          subst e
          apply hne
          have h8' := Int.emod_eq_zero_of_dvd a1
          have h9 : r % n = s % n := (Int.emod_eq_emod_iff_emod_sub_eq_zero).mpr h8'
          rw [Int.emod_eq_of_lt h7 h8, Int.emod_eq_of_lt h3 h4] at h9
          rw [h9]
        have := om_lt h1 h5 h2 h6 a2 hmn
        omega
theorem rankR_fall {a b : RR} (ha : okR a = true) (hb : okR b = true) (h : withinR b a = false) : rankR (joinR a b) < rankR a := by
  refine rankR_lt ha (ok_joinR ha hb) (within_join1 a b).1 fun e => ?_
  have := (within_join1 a b).2
  rw [← e, h] at this
  cases this
end Ev
namespace Ev
local macro_rules
  | `(tactic| simp! only [$as,*]) => `(tactic| simp only [↓x_var, ↓x_C, ↓x_op, ↓x_fz, ↓x_rV, ↓x_B, ↓x_chain, ↓x_tru, ↓x_notT, ↓x_andT, ↓x_orT, ↓x_and, ↓x_or, ↓x_not, ↓x_neg, ↓x_if, ↓x_aNil, ↓x_aVal, ↓x_aSlot, ↓x_aTmp, ↓x_aR, ↓x_call, ↓x_callK, ↓x_dNil, ↓x_dCons, ↓x_tup, ↓x_lst, ↓x_itemN, ↓x_ownItem, ↓x_lenN, ↓x_blt, ↓x_isi, ↓x_list, ↓x_rgL1, ↓x_rgL2, ↓x_iSeq, ↓x_iZip, ↓x_range1, ↓x_range2, ↓x_addR, ↓x_slice, ↓x_partN, ↓x_partS, ↓x_comp, ↓x_skip, ↓x_stuck, ↓x_break, ↓x_cont, ↓x_seq, ↓x_sIf, ↓x_sExpr, ↓x_ret, ↓x_retN, ↓x_move, ↓x_setRv, ↓x_setRf, ↓x_set, ↓x_gN, ↓x_gsNil, ↓x_gsCons, ↓x_gTup, ↓x_gIx, ↓x_setAt, ↓x_asg, ↓x_par, ↓x_sm0, ↓x_smV, ↓x_smF, ↓x_app, ↓x_for, ↓x_for0, ↓x_for1, ↓x_comp0, ↓x_comp1, ↓x_fn, ↓x_iEnum, ↓x_range3, ↓x_comp2, ↓x_compN0, ↓x_compN1, q_addI, q_addT, q_addL, q_subI, q_ltI, q_leI, q_gtI, q_geI, q_isN, q_isNotN, q_eqI, q_neI, q_eqB, q_eqT0, q_eqT1, q_neT0, q_neT1, q_eqL0, q_eqL1, q_neL0, q_neL1, q_int, q_abs, q_min2, q_max2, q_at0, q_at1, q_at2, q_at3, q_ix0, q_ix1, q_ix2, q_sz, q_iteS, q_iteT, q_iteR, q_iteV, q_iteBB, q_iteII, q_iteAnd, q_iteOr, q_iteNot, q_iteCon, q_pa0, q_pa1, q_pa2, q_pa3, q_ow0, q_ow1, q_ow2, q_ow3, q_c0, q_c1, q_c2, q_c3, q_c4, q_c5, q_c6, q_c7, q_c8, q_c9, q_c10, q_c11, q_c12, q_all0, q_all1, q_all2, q_all3, q_inN2, q_inN0, q_02a, q_02b, List.getElem?_cons_zero, List.getElem?_cons_succ, List.set_cons_zero, List.set_cons_succ, wipeE, initE, outsOf, toAv, slotsOf, putOuts, natNodup, List.map_cons, List.map_nil, List.cons_append, List.nil_append, List.append_nil, List.replicate, List.length_cons, List.length_nil, isNone, isiD, seqD, gItem, truD, zipOf, zipD, pick, List.contains_nil, List.contains_cons, eq_self, if_true, if_false, Bool.false_eq_true, Bool.true_eq_false, Bool.not_true, Bool.not_false, reduceIte, decide_true, decide_false, Nat.reduceAdd, Nat.reduceSub, Nat.zero_add, Nat.add_zero, and_self, true_and, and_true, Bool.and_true, Bool.true_and, Bool.or_false, Bool.false_or, Bool.or_true, Bool.true_or, Bool.and_false, Bool.false_and, Bool.or_self, Bool.and_self, Nat.sub_self, Option.map_some, Option.map_none, Nat.reduceBEq, Bool.not_eq_true, beq_self_eq_true, Nat.reduceLeDiff, Nat.reduceLT, Nat.reduceEqDiff, List.filterMap_cons, List.filterMap_nil, $as,*])
open PySem PySem.Spec PyProof.Rows L2
/-! ## rests: what the functions do -/
theorem depth_eR (a : RR) : (eR a).depth ≤ 2 := by
  rcases a with _ | ⟨x, y⟩
  · simp [eR, PyData.depth, PyData.depthAll]
  · simp [eR, PyData.depth, PyData.depthAll]
theorem eqv_eR : ∀ a b : RR, PyData.eqv (eR a) (eR b) = decide (a = b)
  | none, none => rfl
  | none, some (_, _) => rfl
  | some (_, _), none => rfl
  | some (x, y), some (z, w) => by
    show PyData.eqv (.tuple [.int x, .int y]) (.tuple [.int z, .int w]) = _
    simp only [PyData.eqv, PyData.eqvAll, Bool.and_true]
    by_cases h1 : x = z <;> by_cases h2 : y = w <;> simp [h1, h2]
theorem q_eqR (a b : RR) : gEq (eR a) (eR b) = some (.bool (decide (a = b))) := by
  have h : eqOk (eR a) (eR b) = true := decide_eq_true (by have := depth_eR a; omega)
  unfold gEq
  rw [if_pos h, eqv_eR]
theorem q_neR (a b : RR) : gNe (eR a) (eR b) = some (.bool (!decide (a = b))) := by
  have h : eqOk (eR a) (eR b) = true := decide_eq_true (by have := depth_eR a; omega)
  unfold gNe
  rw [if_pos h, eqv_eR]
theorem gd_int (k : Nat) (i : Int) : gd k (.int i) = true := by cases k <;> rfl
theorem gd_eR (k : Nat) (a : RR) : gd (k + 1) (eR a) = true := by
  rcases a with _ | ⟨x, y⟩
  · exact gd_tup k _ (by simp) all_nil
  · exact gd_tup k _ (by simp) (all_cons (gd_int _ _) (all_cons (gd_int _ _) all_nil))
section
variable {f g h w : Fn}
theorem k_wholes2_ok (h1 : ∀ i : Int, f [.val (.int i)] = some (.val (.bool true), [])) (r m : Int) : k_are_wholes f [.val (.tuple [.int r, .int m]), .val (.int 2)] = some (.val (.bool true), []) := by
  simp! only [k_are_wholes, k_are_wholes_b, k_are_wholes_e1, h1]
theorem k_rested_ok (h1 : ∀ r m : Int, f [.val (.tuple [.int r, .int m]), .val (.int 2)] = some (.val (.bool true), [])) {a : RR} (ha : okR a = true) : k_is_rested f [.val (eR a)] = some (.val (.bool true), []) := by
  rcases a with _ | ⟨r, m⟩
  · simp! only [k_is_rested, k_is_rested_b, eR_n]
  · rcases ok_r ha with rfl | ⟨a1, a2, a3, a4⟩
    · simp! only [k_is_rested, k_is_rested_b, eR_s, h1, Int.lt_irrefl]
    · have c1 : ¬ m < 0 := by omega
      have c2 : ¬ m = 0 := by omega
      have c3 : (20160 : Int) % m = 0 := Int.emod_eq_zero_of_dvd a2
      simp! only [k_is_rested, k_is_rested_b, eR_s, h1, c1, c2, q_modI a1, c3, a3, a4]
theorem k_restBy_ok (x : Int) {g : Int} (h : 0 ≤ g) : k_rest_by [.val (.int x), .val (.int g)] = some (.val (eR (restBy x g)), []) := by
  unfold restBy
  by_cases c : g = 0
  · subst c
    simp! only [k_rest_by, k_rest_by_b, eR_s]
  · simp! only [k_rest_by, k_rest_by_b, eR_s, c, q_modI (show 0 < g by omega)]
theorem k_multiple_ok (x : Int) {m : Int} (h : 0 ≤ m) : k_is_multiple [.val (.int x), .val (.int m)] = some (.val (.bool (decide (m ∣ x))), []) := by
  by_cases c : m = 0
  · subst c
    have e : decide ((0 : Int) ∣ x) = decide (x = 0) := decide_eq_decide.mpr Int.zero_dvd
    rw [e]
    simp! only [k_is_multiple, k_is_multiple_b]
  · have e : decide (m ∣ x) = decide (x % m = 0) := decide_eq_decide.mpr Int.dvd_iff_emod_eq_zero
    rw [e]
    simp! only [k_is_multiple, k_is_multiple_b, c, q_modI (show 0 < m by omega)]
abbrev MulF (f : Fn) : Prop := ∀ x m : Int, 0 ≤ m → f [.val (.int x), .val (.int m)] = some (.val (.bool (decide (m ∣ x))), [])
abbrev LeftF (f : Fn) : Prop := ∀ (a : RR) (k : Int), okR a = true → f [.val (eR a), .val (.int k)] = some (.val (.bool (hasR a k)), [])
abbrev WithRF (f : Fn) : Prop := ∀ a b : RR, okR a = true → okR b = true → f [.val (eR a), .val (eR b)] = some (.val (.bool (withinR a b)), [])
abbrev OpRF (op : RR → RR → RR) (f : Fn) : Prop := ∀ a b : RR, okR a = true → okR b = true → f [.val (eR a), .val (eR b)] = some (.val (eR (op a b)), [])
abbrev RestByF (f : Fn) : Prop := ∀ x g : Int, 0 ≤ g → f [.val (.int x), .val (.int g)] = some (.val (eR (restBy x g)), [])
abbrev ChkR (f : Fn) : Prop := ∀ a : RR, okR a = true → f [.val (eR a)] = some (.val .none, [])
abbrev ChkR2 (f : Fn) : Prop := ∀ a b : RR, okR a = true → okR b = true → f [.val (eR a), .val (eR b)] = some (.val .none, [])
theorem k_left_ok' (h1 : MulF f) : LeftF (k_is_left f) := fun a k ha => by
  rcases a with _ | ⟨r, m⟩
  · simp! only [k_is_left, k_is_left_b, eR_n, hasR]
  · simp! only [k_is_left, k_is_left_b, eR_s, hasR, h1 _ _ (ok_nn ha).1]
theorem k_rwithin_ok (h1 : MulF f) (h2 : LeftF g) : WithRF (k_is_rest_within f g) := fun a b ha hb => by
  rcases a with _ | ⟨r, m⟩ <;> rcases b with _ | ⟨s, n⟩
  · simp! only [k_is_rest_within, k_is_rest_within_b, eR_n, withinR]
  · simp! only [k_is_rest_within, k_is_rest_within_b, eR_n, eR_s, withinR]
  · simp! only [k_is_rest_within, k_is_rest_within_b, eR_n, eR_s, withinR]
  · have h2 := h2 (some (s, n)) r hb
    simp only [eR_s] at h2
    simp! only [k_is_rest_within, k_is_rest_within_b, eR_s, withinR, h2, h1 _ _ (ok_nn hb).1, hasR]
theorem grain_nn (g : Nat) : 0 ≤ grain g := by rcases grain_ok g with h | h <;> omega
theorem k_rjoined_ok (h1 : RestByF f) : OpRF joinR (k_joined_rest f) := fun a b ha hb => by
  rcases a with _ | ⟨r, m⟩ <;> rcases b with _ | ⟨s, n⟩
  · simp! only [k_joined_rest, k_joined_rest_b, eR_n, joinR]
  · simp! only [k_joined_rest, k_joined_rest_b, eR_n, eR_s, joinR]
  · simp! only [k_joined_rest, k_joined_rest_b, eR_n, eR_s, joinR]
  · have g1 : gGcd [.int m, .int n, .int (r - s)] = some (.int (gcd3 m n (r - s) : Nat)) := rfl
    have h1 := h1 r (grain (gcd3 m n (r - s))) (grain_nn _)
    have e : joinR (some (r, m)) (some (s, n)) = restBy r (grain (gcd3 m n (r - s))) := rfl
    rw [e]
    generalize gcd3 m n (r - s) = G at g1 h1 ⊢
    have hq := q_ne0 (x := (G : Int))
    have g2 : gGcd [.int (G : Nat), .int 20160] = some (.int (Nat.gcd G 20160 : Nat)) := rfl
    by_cases c : G = 0
    · subst c
      have hg : grain 0 = 0 := rfl
      rw [hg] at h1 ⊢
      simp! only [k_joined_rest, k_joined_rest_b, eR_s, g1, h1]
    · have c2 : ¬ (G : Int) = 0 := by omega
      have hg : grain G = (Nat.gcd G 20160 : Nat) := if_neg c
      rw [hg] at h1 ⊢
      simp! only [k_joined_rest, k_joined_rest_b, eR_s, g1, hq, c2, g2, h1]
theorem k_rcheck_ok (h1 : ∀ a, okR a = true → f [.val (eR a)] = some (.val (.bool true), [])) : ChkR (k_check_rest f) := fun a ha => by
  simp! only [k_check_rest, k_check_rest_b, h1 a ha]
theorem k_rchecks_ok (h1 : ChkR f) : ChkR2 (k_check_rests f) := fun a b ha hb => by
  simp! only [k_check_rests, k_check_rests_b, h1 a ha, h1 b hb]
theorem k_srwithin_ok (h1 : WithRF f) (h2 : ChkR2 g) : WithRF (k_rest_within f g) := fun a b ha hb => by
  simp! only [k_rest_within, k_rest_within_b, h1 a b ha hb, h2 a b ha hb]
theorem k_srjoined_ok (h1 : OpRF joinR f) (h2 : ChkR2 g) : OpRF joinR (k_rest_joined f g) := fun a b ha hb => by
  simp! only [k_rest_joined, k_rest_joined_b, h1 a b ha hb, h2 a b ha hb]
/-! ### the law's own -/
theorem has_law {r m k : Int} (h : okR (some (r, m)) = true) : hasR (some (r, m)) k = if m = 0 then decide (r = k) else decide (k % m = r) := by
  show decide (m ∣ k - r) = _
  split
  · rename_i c; subst c
    exact decide_eq_decide.mpr ⟨fun h => by have := Int.zero_dvd.mp h; omega, fun h => by rw [h]; simp⟩
  · rename_i c
    rcases ok_r h with rfl | ⟨h1, -, h3, h4⟩
    · exact absurd rfl c
    · refine decide_eq_decide.mpr ⟨fun h => ?_, fun h => ?_⟩
      · have h8 := Int.emod_eq_zero_of_dvd h
        have h9 : k % m = r % m := (Int.emod_eq_emod_iff_emod_sub_eq_zero).mpr h8
        rw [h9, Int.emod_eq_of_lt h3 h4]
      · rw [← h]; exact Int.dvd_self_sub_emod
theorem k__law_rhas_ok : LeftF k__law_rest_has := fun a k ha => by
  rcases a with _ | ⟨r, m⟩
  · simp! only [k__law_rest_has, k__law_rest_has_b, eR_n, hasR]
  · rw [has_law ha]
    by_cases c : m = 0
    · simp! only [k__law_rest_has, k__law_rest_has_b, eR_s, c]
    · have : 0 < m := by have := ok_nn ha; omega
      simp! only [k__law_rest_has, k__law_rest_has_b, eR_s, c, q_modI this]
/-- Euclid's loop -/
theorem euclid : ∀ (k : Nat) (x y fuel : Nat), y < 2 ^ k → 2 * k + 1 ≤ fuel → sWhile (eB (eOp gNe (eVar 1) (eC (.int 0)))) k__law_common_l1 fuel [.val (.int (x : Nat)), .val (.int (y : Nat))] = some (.nx, [.val (.int (Nat.gcd x y : Nat)), .val (.int 0)])
  | 0, x, y, fuel + 1, hy, hf => by
    have e : y = 0 := by simp at hy; exact hy
    subst e
    unfold sWhile
    simp! only [q_ne0, Nat.gcd_zero_right]
  | k + 1, x, y, fuel + 2, hy, hf => by
    have step : ∀ (x y fuel : Nat), 0 < y → sWhile (eB (eOp gNe (eVar 1) (eC (.int 0)))) k__law_common_l1 (fuel + 1) [.val (.int (x : Nat)), .val (.int (y : Nat))] = sWhile (eB (eOp gNe (eVar 1) (eC (.int 0)))) k__law_common_l1 fuel [.val (.int (y : Nat)), .val (.int ((x % y : Nat)))] := fun x y fuel h => by
      have c : ¬ ((y : Int) = 0) := by omega
      have hm : gMod (.int (x : Nat)) (.int (y : Nat)) = some (.int ((x % y : Nat))) := by rw [q_modI (by omega)]; simp
      conv => lhs; unfold sWhile
      simp! only [q_ne0, c, k__law_common_l1, hm]
    have stop : ∀ (x fuel : Nat), sWhile (eB (eOp gNe (eVar 1) (eC (.int 0)))) k__law_common_l1 (fuel + 1) [.val (.int (x : Nat)), .val (.int ((0 : Nat)))] = some (.nx, [.val (.int (x : Nat)), .val (.int 0)]) := fun x fuel => by
      unfold sWhile
      simp! only [q_ne0]
    by_cases h0 : y = 0
    · subst h0
      rw [stop, Nat.gcd_zero_right]
    · rw [step x y (fuel + 1) (by omega)]
      by_cases h1 : x % y = 0
      · rw [h1, stop]
        rw [Nat.gcd_comm, Nat.gcd_rec, h1, Nat.gcd_zero_left]
      · have hlt : x % y < y := Nat.mod_lt _ (by omega)
        rw [step y (x % y) fuel (by omega)]
        have hb : y % (x % y) < 2 ^ k := by
          have h2 : y % (x % y) < x % y := Nat.mod_lt _ (by omega)
          have h3 := Nat.mod_add_div y (x % y)
          have h4 : 1 ≤ y / (x % y) := Nat.div_pos (by omega) (by omega)
          have h5 : x % y ≤ x % y * (y / (x % y)) := Nat.le_mul_of_pos_right _ h4
          have h6 : 2 ^ (k + 1) = 2 * 2 ^ k := by rw [Nat.pow_succ]; omega
          omega
        rw [euclid k (x % y) (y % (x % y)) fuel hb (by omega)]
        have e : Nat.gcd (x % y) (y % (x % y)) = Nat.gcd x y := by
          rw [Nat.gcd_comm x y, Nat.gcd_rec y x, Nat.gcd_rec (x % y) y, Nat.gcd_comm]
        rw [e]
end
end Ev
namespace Ev
local macro_rules
  | `(tactic| simp! only [$as,*]) => `(tactic| simp only [↓x_var, ↓x_C, ↓x_op, ↓x_fz, ↓x_rV, ↓x_B, ↓x_chain, ↓x_tru, ↓x_notT, ↓x_andT, ↓x_orT, ↓x_and, ↓x_or, ↓x_not, ↓x_neg, ↓x_if, ↓x_aNil, ↓x_aVal, ↓x_aSlot, ↓x_aTmp, ↓x_aR, ↓x_call, ↓x_callK, ↓x_dNil, ↓x_dCons, ↓x_tup, ↓x_lst, ↓x_itemN, ↓x_ownItem, ↓x_lenN, ↓x_blt, ↓x_isi, ↓x_list, ↓x_rgL1, ↓x_rgL2, ↓x_iSeq, ↓x_iZip, ↓x_range1, ↓x_range2, ↓x_addR, ↓x_slice, ↓x_partN, ↓x_partS, ↓x_comp, ↓x_skip, ↓x_stuck, ↓x_break, ↓x_cont, ↓x_seq, ↓x_sIf, ↓x_sExpr, ↓x_ret, ↓x_retN, ↓x_move, ↓x_setRv, ↓x_setRf, ↓x_set, ↓x_gN, ↓x_gsNil, ↓x_gsCons, ↓x_gTup, ↓x_gIx, ↓x_setAt, ↓x_asg, ↓x_par, ↓x_sm0, ↓x_smV, ↓x_smF, ↓x_app, ↓x_for, ↓x_for0, ↓x_for1, ↓x_comp0, ↓x_comp1, ↓x_fn, ↓x_iEnum, ↓x_range3, ↓x_comp2, ↓x_compN0, ↓x_compN1, q_addI, q_addT, q_addL, q_subI, q_ltI, q_leI, q_gtI, q_geI, q_isN, q_isNotN, q_eqI, q_neI, q_eqB, q_eqT0, q_eqT1, q_neT0, q_neT1, q_eqL0, q_eqL1, q_neL0, q_neL1, q_int, q_abs, q_min2, q_max2, q_at0, q_at1, q_at2, q_at3, q_ix0, q_ix1, q_ix2, q_sz, q_iteS, q_iteT, q_iteR, q_iteV, q_iteBB, q_iteII, q_iteAnd, q_iteOr, q_iteNot, q_iteCon, q_pa0, q_pa1, q_pa2, q_pa3, q_ow0, q_ow1, q_ow2, q_ow3, q_c0, q_c1, q_c2, q_c3, q_c4, q_c5, q_c6, q_c7, q_c8, q_c9, q_c10, q_c11, q_c12, q_all0, q_all1, q_all2, q_all3, q_inN2, q_inN0, q_02a, q_02b, List.getElem?_cons_zero, List.getElem?_cons_succ, List.set_cons_zero, List.set_cons_succ, wipeE, initE, outsOf, toAv, slotsOf, putOuts, natNodup, List.map_cons, List.map_nil, List.cons_append, List.nil_append, List.append_nil, List.replicate, List.length_cons, List.length_nil, isNone, isiD, seqD, gItem, truD, zipOf, zipD, pick, List.contains_nil, List.contains_cons, eq_self, if_true, if_false, Bool.false_eq_true, Bool.true_eq_false, Bool.not_true, Bool.not_false, reduceIte, decide_true, decide_false, Nat.reduceAdd, Nat.reduceSub, Nat.zero_add, Nat.add_zero, and_self, true_and, and_true, Bool.and_true, Bool.true_and, Bool.or_false, Bool.false_or, Bool.or_true, Bool.true_or, Bool.and_false, Bool.false_and, Bool.or_self, Bool.and_self, Nat.sub_self, Option.map_some, Option.map_none, Nat.reduceBEq, Bool.not_eq_true, beq_self_eq_true, Nat.reduceLeDiff, Nat.reduceLT, Nat.reduceEqDiff, List.filterMap_cons, List.filterMap_nil, $as,*])
local macro_rules
  | `(tactic| dsimp! only [$as,*]) => `(tactic| simp only [↓x_var, ↓x_C, ↓x_op, ↓x_fz, ↓x_rV, ↓x_B, ↓x_chain, ↓x_tru, ↓x_notT, ↓x_andT, ↓x_orT, ↓x_and, ↓x_or, ↓x_not, ↓x_neg, ↓x_if, ↓x_aNil, ↓x_aVal, ↓x_aSlot, ↓x_aTmp, ↓x_aR, ↓x_call, ↓x_callK, ↓x_dNil, ↓x_dCons, ↓x_tup, ↓x_lst, ↓x_itemN, ↓x_ownItem, ↓x_lenN, ↓x_blt, ↓x_isi, ↓x_list, ↓x_rgL1, ↓x_rgL2, ↓x_iSeq, ↓x_iZip, ↓x_range1, ↓x_range2, ↓x_addR, ↓x_slice, ↓x_partN, ↓x_partS, ↓x_comp, ↓x_skip, ↓x_stuck, ↓x_break, ↓x_cont, ↓x_seq, ↓x_sIf, ↓x_sExpr, ↓x_ret, ↓x_retN, ↓x_move, ↓x_setRv, ↓x_setRf, ↓x_set, ↓x_gN, ↓x_gsNil, ↓x_gsCons, ↓x_gTup, ↓x_gIx, ↓x_setAt, ↓x_asg, ↓x_par, ↓x_sm0, ↓x_smV, ↓x_smF, ↓x_app, ↓x_for, ↓x_for0, ↓x_for1, ↓x_comp0, ↓x_comp1, ↓x_fn, ↓x_iEnum, ↓x_range3, ↓x_comp2, ↓x_compN0, ↓x_compN1, q_addI, q_addT, q_addL, q_subI, q_ltI, q_leI, q_gtI, q_geI, q_isN, q_isNotN, q_eqI, q_neI, q_eqB, q_eqT0, q_eqT1, q_neT0, q_neT1, q_eqL0, q_eqL1, q_neL0, q_neL1, q_int, q_abs, q_min2, q_max2, q_at0, q_at1, q_at2, q_at3, q_ix0, q_ix1, q_ix2, q_sz, q_iteS, q_iteT, q_iteR, q_iteV, q_iteBB, q_iteII, q_iteAnd, q_iteOr, q_iteNot, q_iteCon, q_pa0, q_pa1, q_pa2, q_pa3, q_ow0, q_ow1, q_ow2, q_ow3, q_c0, q_c1, q_c2, q_c3, q_c4, q_c5, q_c6, q_c7, q_c8, q_c9, q_c10, q_c11, q_c12, q_all0, q_all1, q_all2, q_all3, q_inN2, q_inN0, q_02a, q_02b, List.getElem?_cons_zero, List.getElem?_cons_succ, List.set_cons_zero, List.set_cons_succ, wipeE, initE, outsOf, toAv, slotsOf, putOuts, natNodup, List.map_cons, List.map_nil, List.cons_append, List.nil_append, List.append_nil, List.replicate, List.length_cons, List.length_nil, isNone, isiD, seqD, truD, zipOf, zipD, pick, List.contains_nil, List.contains_cons, eq_self, if_true, if_false, Bool.false_eq_true, Bool.true_eq_false, Bool.not_true, Bool.not_false, reduceIte, decide_true, decide_false, Nat.reduceAdd, Nat.reduceSub, Nat.zero_add, Nat.add_zero, and_self, true_and, and_true, Bool.and_true, Bool.true_and, Bool.or_false, Bool.false_or, Bool.or_true, Bool.true_or, Bool.and_false, Bool.false_and, Bool.or_self, Bool.and_self, Nat.sub_self, Option.map_some, Option.map_none, Nat.reduceBEq, Bool.not_eq_true, beq_self_eq_true, Nat.reduceLeDiff, Nat.reduceLT, Nat.reduceEqDiff, List.filterMap_cons, List.filterMap_nil, $as,*])
open PySem PySem.Spec PyProof.Rows L2
/-! ## rests: the law's own -/
theorem atI_z {d : D} {ds : List D} : atI (d :: ds) 0 = some d := by
  unfold atI
  rw [q_ixN (by omega) (by rw [List.length_cons]; omega)]
  rfl
abbrev CommF (f : Fn) : Prop := ∀ x y : Int, y.natAbs < 2 ^ 400 → f [.val (.int x), .val (.int y)] = some (.val (.int (Nat.gcd x.natAbs y.natAbs : Nat)), [])
def szL (z : Int) (ns : List Int) : Prop := ∀ x ∈ ns, -z ≤ x ∧ x ≤ z
section
variable {f g h w : Fn}
theorem k_common_ok : CommF k__law_common := fun x y hy => by
  have he := euclid 400 x.natAbs y.natAbs 30000 hy (by decide)
  have hx : (if x < 0 then -x else x) = ((x.natAbs : Nat) : Int) := abs_nat
  have hy' : (if y < 0 then -y else y) = ((y.natAbs : Nat) : Int) := abs_nat
  refine fn_rt (b := k__law_common_b) (e := [.val (.int (Nat.gcd x.natAbs y.natAbs : Nat)), .val (.int 0)]) ?_ rfl
  unfold k__law_common_b k__law_common_b_w
  refine seq_nx (e1 := [.val (.int (x.natAbs : Nat)), .val (.int (y.natAbs : Nat))]) (by simp! only [hx, hy']) (seq_nx he (by simp! only [x_C]))
theorem gcd_grain (G : Nat) (h : G ≠ 0) : ((Nat.gcd G 20160 : Nat) : Int) = grain G := by unfold grain; rw [if_neg h]
theorem k_least_ok (h1 : CommF f) {ns : List Int} (hl : ns.length ≤ 100000) (hz : szL (2 ^ 390) ns) : k__law_least f [.val (.list (ns.map PyData.int))] = some (.val (eR (leastR ns)), []) := by
  cases ns with
  | nil => simp! only [k__law_least, k__law_least_b, leastR, eR_n]
  | cons n ns =>
    have hn := hz n (List.mem_cons_self ..)
    have loop : ∀ (xs : List Int), (∀ x ∈ xs, -(2 ^ 390) ≤ x ∧ x ≤ 2 ^ 390) → ∀ (G : Nat) (s2 : Sl), Fr s2 → ∃ s2', forL (gN 2) (k__law_least_l1 f) (xs.map PyData.int) [.val (.list ((n :: ns).map PyData.int)), .val (.int (G : Nat)), s2] = some (.nx, [.val (.list ((n :: ns).map PyData.int)), .val (.int (gcdL n xs G : Nat)), s2']) := by
      intro xs
      induction xs with
      | nil => intro _ G s2 f2; exact ⟨s2, by rw [List.map_nil, x_for0]; rfl⟩
      | cons x xs ih =>
        intro hx G s2 f2
        have hx0 := hx x (List.mem_cons_self ..)
        obtain ⟨s2', e⟩ := ih (fun y hy => hx y (List.mem_cons_of_mem _ hy)) (Nat.gcd G (x - n).natAbs) (.val (.int x)) rfl
        refine ⟨s2', ?_⟩
        have hc := h1 (G : Nat) (x - n) (by omega)
        rw [Int.natAbs_natCast] at hc
        have hb : k__law_least_l1 f [.val (.list ((n :: ns).map PyData.int)), .val (.int (G : Nat)), .val (.int x)] = some (.nx, [.val (.list ((n :: ns).map PyData.int)), .val (.int (Nat.gcd G (x - n).natAbs : Nat)), .val (.int x)]) := by
          simp! only [k__law_least_l1, hc]
        have hg : gN 2 (.int x) [.val (.list ((n :: ns).map PyData.int)), .val (.int (G : Nat)), s2] = some [.val (.list ((n :: ns).map PyData.int)), .val (.int (G : Nat)), .val (.int x)] := by simp! only [show isPar s2 = false from f2]
        rw [List.map_cons, x_for1, hg]
        dsimp only
        rw [hb]
        exact e
    obtain ⟨s2', e⟩ := loop (n :: ns) (fun x hx => hz x hx) 0 .no rfl
    have hr : leastR (n :: ns) = restBy n (grain (gcdL n (n :: ns) 0)) := rfl
    rw [hr]
    generalize gcdL n (n :: ns) 0 = G at e ⊢
    have i0 : gItem (.list ((n :: ns).map PyData.int)) (.int 0) = some (.int n) := by
      show atI ((n :: ns).map PyData.int) 0 = _
      rw [List.map_cons, atI_z]
    have hq : gEq (.list ((n :: ns).map PyData.int)) (.list []) = some (.bool false) := q_eqL1
    have hc0 : ((0 : Nat) : Int) = 0 := rfl
    rw [hc0] at e
    have hi : iSeq (eVar 0) [.val (.list ((n :: ns).map PyData.int)), .val (.int 0), .no] = some ((n :: ns).map PyData.int, [.val (.list ((n :: ns).map PyData.int)), .val (.int 0), .no]) := by simp! only [x_C]
    have s1 : (sIf (eB (eOp gEq (eVar 0) (eFz (eLst dNil)))) (sRet (rV (eTup dNil))) sSkip) [.val (.list ((n :: ns).map PyData.int)), .no, .no] = some (.nx, [.val (.list ((n :: ns).map PyData.int)), .no, .no]) := by simp! only [hq]
    have s2 : (sSet 1 (rV (eC (.int 0)))) [.val (.list ((n :: ns).map PyData.int)), .no, .no] = some (.nx, [.val (.list ((n :: ns).map PyData.int)), .val (.int 0), .no]) := by simp! only [x_C]
    generalize (PyData.list ((n :: ns).map PyData.int)) = dl at e i0 hq hi s1 s2 ⊢
    have hq2 := q_ne0 (x := (G : Int))
    by_cases c : G = 0
    · subst c
      have hg : grain 0 = 0 := rfl
      rw [hg]
      refine fn_rt (b := k__law_least_b f) (e := [.val dl, .val (.int 0), s2']) ?_ rfl
      unfold k__law_least_b
      refine seq_nx s1 (seq_nx s2 (seq_nx (for_nx hi e) (seq_rt ?_)))
      dsimp! only [i0, restBy, eR_s]
    · have c2 : ¬ ((G : Int) = 0) := by omega
      have hc := h1 (G : Nat) 20160 (by decide)
      rw [Int.natAbs_natCast, show (20160 : Int).natAbs = 20160 from rfl, gcd_grain G c] at hc
      have hp : 0 < grain G := by
        have := grain_nn G
        have : grain G ≠ 0 := by
          rw [← gcd_grain G c]
          have := Nat.gcd_pos_of_pos_right G (show 0 < 20160 by decide)
          omega
        omega
      have e2 : restBy n (grain G) = some (n % grain G, grain G) := by unfold restBy; rw [if_neg (by omega)]
      rw [e2]
      refine fn_rt (b := k__law_least_b f) (e := [.val dl, .val (.int (grain G)), s2']) ?_ rfl
      unfold k__law_least_b
      refine seq_nx s1 (seq_nx s2 (seq_nx (for_nx hi e) (seq_nx (e1 := [.val dl, .val (.int (G : Nat)), s2']) ?_ (seq_nx (e1 := [.val dl, .val (.int (grain G)), s2']) ?_ ?_))))
      · simp! only [c2]
      · simp! only [hc]
      · dsimp! only [i0, q_modI hp, eR_s]
theorem k_twoOf_ok (a : RR) : k__law_two_of [.val (eR a)] = some (.fresh ((twoOf a).map PyData.int), []) := by
  rcases a with _ | ⟨r, m⟩ <;> simp! only [k__law_two_of, k__law_two_of_b, eR_n, eR_s, twoOf]
theorem within_two {a b : RR} (hb : okR b = true) : (twoOf a).all (fun x => hasR b x) = withinR a b := by
  rcases a with _ | ⟨r, m⟩
  · rfl
  rcases b with _ | ⟨s, n⟩
  · rfl
  show (decide (n ∣ r - s) && (decide (n ∣ r + m - s) && true)) = (decide _ && decide _)
  rw [Bool.and_true]
  by_cases c : n ∣ r - s
  · rw [decide_eq_true c]
    congr 1
    refine decide_eq_decide.mpr ⟨fun h => ?_, fun h => ?_⟩
    · have := Int.dvd_sub h c
      rwa [show r + m - s - (r - s) = m by omega] at this
    · have := Int.dvd_add c h
      rwa [show r - s + m = r + m - s by omega] at this
  · rw [decide_eq_false c]; rfl
theorem k_inside_ok (h1 : LeftF f) (h2 : ∀ a : RR, g [.val (eR a)] = some (.fresh ((twoOf a).map PyData.int), [])) : WithRF (k__law_rest_inside f g) := fun a b ha hb => by
  have hw := within_two (a := a) hb
  rcases a with _ | ⟨r, m⟩
  · have h2 := h2 none
    simp only [twoOf, List.map_nil] at h2
    simp! only [k__law_rest_inside, k__law_rest_inside_b, h2, withinR]
  · have h2 := h2 (some (r, m))
    have e1 := h1 b r hb
    have e2 := h1 b (r + m) hb
    simp only [twoOf, List.map_cons, List.map_nil] at h2
    simp only [twoOf, List.all_cons, List.all_nil, Bool.and_true] at hw
    rw [← hw]
    simp! only [k__law_rest_inside, k__law_rest_inside_b, k__law_rest_inside_e1, h2, e1, e2]
end
end Ev
namespace Ev
local macro_rules
  | `(tactic| simp! only [$as,*]) => `(tactic| simp only [↓x_var, ↓x_C, ↓x_op, ↓x_fz, ↓x_rV, ↓x_B, ↓x_chain, ↓x_tru, ↓x_notT, ↓x_andT, ↓x_orT, ↓x_and, ↓x_or, ↓x_not, ↓x_neg, ↓x_if, ↓x_aNil, ↓x_aVal, ↓x_aSlot, ↓x_aTmp, ↓x_aR, ↓x_call, ↓x_callK, ↓x_dNil, ↓x_dCons, ↓x_tup, ↓x_lst, ↓x_itemN, ↓x_ownItem, ↓x_lenN, ↓x_blt, ↓x_isi, ↓x_list, ↓x_rgL1, ↓x_rgL2, ↓x_iSeq, ↓x_iZip, ↓x_range1, ↓x_range2, ↓x_addR, ↓x_slice, ↓x_partN, ↓x_partS, ↓x_comp, ↓x_skip, ↓x_stuck, ↓x_break, ↓x_cont, ↓x_seq, ↓x_sIf, ↓x_sExpr, ↓x_ret, ↓x_retN, ↓x_move, ↓x_setRv, ↓x_setRf, ↓x_set, ↓x_gN, ↓x_gsNil, ↓x_gsCons, ↓x_gTup, ↓x_gIx, ↓x_setAt, ↓x_asg, ↓x_par, ↓x_sm0, ↓x_smV, ↓x_smF, ↓x_app, ↓x_for, ↓x_for0, ↓x_for1, ↓x_comp0, ↓x_comp1, ↓x_fn, ↓x_iEnum, ↓x_range3, ↓x_comp2, ↓x_compN0, ↓x_compN1, q_addI, q_addT, q_addL, q_subI, q_ltI, q_leI, q_gtI, q_geI, q_isN, q_isNotN, q_eqI, q_neI, q_eqB, q_eqT0, q_eqT1, q_neT0, q_neT1, q_eqL0, q_eqL1, q_neL0, q_neL1, q_int, q_abs, q_min2, q_max2, q_at0, q_at1, q_at2, q_at3, q_ix0, q_ix1, q_ix2, q_sz, q_iteS, q_iteT, q_iteR, q_iteV, q_iteBB, q_iteII, q_iteAnd, q_iteOr, q_iteNot, q_iteCon, q_pa0, q_pa1, q_pa2, q_pa3, q_ow0, q_ow1, q_ow2, q_ow3, q_c0, q_c1, q_c2, q_c3, q_c4, q_c5, q_c6, q_c7, q_c8, q_c9, q_c10, q_c11, q_c12, q_all0, q_all1, q_all2, q_all3, q_inN2, q_inN0, q_02a, q_02b, List.getElem?_cons_zero, List.getElem?_cons_succ, List.set_cons_zero, List.set_cons_succ, wipeE, initE, outsOf, toAv, slotsOf, putOuts, natNodup, List.map_cons, List.map_nil, List.cons_append, List.nil_append, List.append_nil, List.replicate, List.length_cons, List.length_nil, isNone, isiD, seqD, gItem, truD, zipOf, zipD, pick, List.contains_nil, List.contains_cons, eq_self, if_true, if_false, Bool.false_eq_true, Bool.true_eq_false, Bool.not_true, Bool.not_false, reduceIte, decide_true, decide_false, Nat.reduceAdd, Nat.reduceSub, Nat.zero_add, Nat.add_zero, and_self, true_and, and_true, Bool.and_true, Bool.true_and, Bool.or_false, Bool.false_or, Bool.or_true, Bool.true_or, Bool.and_false, Bool.false_and, Bool.or_self, Bool.and_self, Nat.sub_self, Option.map_some, Option.map_none, Nat.reduceBEq, Bool.not_eq_true, beq_self_eq_true, Nat.reduceLeDiff, Nat.reduceLT, Nat.reduceEqDiff, List.filterMap_cons, List.filterMap_nil, $as,*])
open PySem PySem.Spec PyProof.Rows L2
/-! ## rests drawn -/
def szR (z : Int) : RR → Prop
  | none => True
  | some (r, _) => -z ≤ r ∧ r ≤ z
theorem szR.mono {z z' : Int} {a : RR} (h : szR z a) (hz : z ≤ z') : szR z' a := by
  rcases a with _ | ⟨r, m⟩
  · trivial
  · exact ⟨by have := h.1; omega, by have := h.2; omega⟩
def Pa (g : Fn) : Prop := ∀ (b : Nat) (ds : List D), Src (b + 4) ds → ∃ (p : Int) (ds' : List D), g [.own ds] = some (.val (.int p), [ds']) ∧ 0 < p ∧ p ∣ 20160 ∧ p ≤ 20160 ∧ Src b ds'
def Rst (k : Nat) (g : Fn) : Prop := ∀ (b : Nat) (ds : List D), Src (b + k) ds → ∃ (a : RR) (ds' : List D), g [.own ds] = some (.val (eR a), [ds']) ∧ okR a = true ∧ szR (2 ^ 111) a ∧ Src b ds'
def Rnr (k : Nat) (g : Fn) : Prop := ∀ (b : Nat) (ds : List D) (o : RR) (z : Int), Src (b + k) ds → okR o = true → szR z o → 2 ^ 111 ≤ z → ∃ (a : RR) (ds' : List D), g [.own ds, .val (eR o)] = some (.val (eR a), [ds']) ∧ okR a = true ∧ szR (z + 400000) a ∧ Src b ds'
theorem pick_tup {p : Fn} (P : Pk p) {b : Nat} {ds : List D} {xs : List D} (h : Src (b + 1) ds) (hx : xs ≠ []) (hl : xs.length < 1000000) : ∃ d ∈ xs, ∃ ds', p [.own ds, .val (.tuple xs)] = some (.val d, [ds']) ∧ Src b ds' := (P b ds xs h hx hl).2
theorem k_part_ok {p : Fn} (P : Pk p) : Pa (k__law_part p) := by
  intro b ds h
  obtain ⟨d1, h1, s1, e1, g1⟩ := pick_tup P (b := b + 3) (xs := [.int 1, .int 1, .int 2, .int 2, .int 4, .int 4, .int 8, .int 16, .int 32, .int 64]) h (by simp) (by simp)
  obtain ⟨d2, h2, s2, e2, g2⟩ := pick_tup P (b := b + 2) (xs := [.int 1, .int 1, .int 3, .int 9]) g1 (by simp) (by simp)
  obtain ⟨d3, h3, s3, e3, g3⟩ := pick_tup P (b := b + 1) (xs := [.int 1, .int 1, .int 1, .int 5]) g2 (by simp) (by simp)
  obtain ⟨d4, h4, s4, e4, g4⟩ := pick_tup P (b := b) (xs := [.int 1, .int 1, .int 1, .int 7]) g3 (by simp) (by simp)
  have f1 : ∃ t ∈ [(1 : Int), 2, 4, 8, 16, 32, 64], d1 = .int t := by simp only [List.mem_cons, List.not_mem_nil, or_false] at h1; rcases h1 with rfl | rfl | rfl | rfl | rfl | rfl | rfl | rfl | rfl | rfl <;> exact ⟨_, by decide, rfl⟩
  have f2 : ∃ t ∈ [(1 : Int), 3, 9], d2 = .int t := by simp only [List.mem_cons, List.not_mem_nil, or_false] at h2; rcases h2 with rfl | rfl | rfl | rfl <;> exact ⟨_, by decide, rfl⟩
  have f3 : ∃ t ∈ [(1 : Int), 5], d3 = .int t := by simp only [List.mem_cons, List.not_mem_nil, or_false] at h3; rcases h3 with rfl | rfl | rfl | rfl <;> exact ⟨_, by decide, rfl⟩
  have f4 : ∃ t ∈ [(1 : Int), 7], d4 = .int t := by simp only [List.mem_cons, List.not_mem_nil, or_false] at h4; rcases h4 with rfl | rfl | rfl | rfl <;> exact ⟨_, by decide, rfl⟩
  obtain ⟨t1, m1, rfl⟩ := f1
  obtain ⟨t2, m2, rfl⟩ := f2
  obtain ⟨t3, m3, rfl⟩ := f3
  obtain ⟨t4, m4, rfl⟩ := f4
  have all : ([(1 : Int), 2, 4, 8, 16, 32, 64].all fun t1 => [(1 : Int), 3, 9].all fun t2 => [(1 : Int), 5].all fun t3 => [(1 : Int), 7].all fun t4 => decide (0 < t1 * t2 * t3 * t4 ∧ 20160 % (t1 * t2 * t3 * t4) = 0 ∧ t1 * t2 * t3 * t4 ≤ 20160) && (mulOk t1 t2 && (mulOk (t1 * t2) t3 && mulOk (t1 * t2 * t3) t4))) = true := by decide +kernel
  have q := List.all_eq_true.mp (List.all_eq_true.mp (List.all_eq_true.mp (List.all_eq_true.mp all t1 m1) t2 m2) t3 m3) t4 m4
  obtain ⟨q1, q2⟩ := andB q
  obtain ⟨q2, q3⟩ := andB q2
  obtain ⟨q3, q4⟩ := andB q3
  obtain ⟨r1, r2, r3⟩ := of_decide_eq_true q1
  refine ⟨t1 * t2 * t3 * t4, s4, ?_, r1, Int.dvd_of_emod_eq_zero r2, r3, g4⟩
  simp! only [k__law_part, k__law_part_b, e1, e2, e3, e4, q_mulI q2, q_mulI q3, q_mulI q4]
theorem ok_mk {x g : Int} (h1 : 0 < g) (h2 : g ∣ 20160) : okR (some (x % g, g)) = true := ok_of (.inr ⟨h1, h2, Int.emod_nonneg _ (by omega), Int.emod_lt_of_pos _ h1⟩)
theorem k_rest_ok {t nu pa : Fn} (T : Tk t) (N : Nm 7 (2 ^ 110) nu) (P : Pa pa) : Rst 8 (k__law_rest t nu pa) := by
  intro b ds h
  obtain ⟨v1, d1, e1, p1, q1, s1⟩ := T (b + 7) ds 9 h (by decide) (by decide)
  by_cases c1 : v1 < 3
  · by_cases c0 : v1 = 0
    · refine ⟨none, d1, ?_, rfl, trivial, s1.mono (by omega)⟩
      subst c0
      simp! only [k__law_rest, k__law_rest_b, e1, eR_n]
      rfl
    · obtain ⟨v, d2, e2, z1, z2, s2⟩ := N b d1 s1
      refine ⟨some (v, 0), d2, ?_, ok_of (.inl rfl), ⟨by omega, by omega⟩, s2⟩
      simp! only [k__law_rest, k__law_rest_b, e1, e2, c0, c1, eR_s]
  · obtain ⟨p, d2, e2, z1, z2, z3, s2⟩ := P (b + 3) d1 s1
    obtain ⟨v, d3, e3, p3, q3, s3⟩ := T (b + 2) d2 p s2 z1 (by omega)
    refine ⟨some (v, p), d3, ?_, ok_of (.inr ⟨z1, z2, p3, q3⟩), ⟨by omega, by omega⟩, s3.mono (by omega)⟩
    simp! only [k__law_rest, k__law_rest_b, e1, e2, e3, c1, eR_s]
theorem k_rnear_ok {t p pa re : Fn} (T : Tk t) (P : Pk p) (A : Pa pa) (R : Rst 8 re) : Rnr 16 (k__law_rest_near t p pa re) := by
  intro b ds o z h ho hz hz2
  rcases o with _ | ⟨r, m⟩
  · obtain ⟨a, d1, e1, oa, za, s1⟩ := R (b + 8) ds h
    refine ⟨a, d1, ?_, oa, za.mono (by omega), s1.mono (by omega)⟩
    simp! only [k__law_rest_near, k__law_rest_near_b, eR_n, e1]
  obtain ⟨v1, d1, e1, p1, q1, s1⟩ := T (b + 15) ds 4 h (by decide) (by decide)
  by_cases c1 : v1 = 0
  · obtain ⟨a, d2, e2, oa, za, s2⟩ := R (b + 7) d1 s1
    refine ⟨a, d2, ?_, oa, za.mono (by omega), s2.mono (by omega)⟩
    simp! only [k__law_rest_near, k__law_rest_near_b, eR_s, e1, c1, e2]
  obtain ⟨v2, d2, e2, p2, q2, s2⟩ := T (b + 14) d1 7 s1 (by decide) (by decide)
  obtain ⟨x, hx, d3, e3, s3⟩ := pick_tup P (b := b + 13) (xs := [.int 0, .int 0, .int 0, .int 1, .int (m / 2)]) s2 (by simp) (by simp)
  obtain ⟨v4, d4, e4, p4, q4, s4⟩ := T (b + 12) d3 4 s3 (by decide) (by decide)
  have hm := ok_nn ho
  have hx2 : ∃ k : Int, x = .int k ∧ 0 ≤ k ∧ k ≤ 20160 := by
    simp only [List.mem_cons, List.not_mem_nil, or_false] at hx
    rcases hx with rfl | rfl | rfl | rfl | rfl
    · exact ⟨0, rfl, by omega, by omega⟩
    · exact ⟨0, rfl, by omega, by omega⟩
    · exact ⟨0, rfl, by omega, by omega⟩
    · exact ⟨1, rfl, by omega, by omega⟩
    · exact ⟨m / 2, rfl, by omega, by omega⟩
  obtain ⟨k, rfl, k1, k2⟩ := hx2
  have hmul : mulOk m (v2 - 3) = true := mulOk_lt (a := 20) (b := 4) (by omega) (by omega) (by decide)
  have hfd : gFdiv (.int m) (.int 2) = some (.int (m / 2)) := q_fdivI (by decide) (by decide)
  have hb : -60480 ≤ m * (v2 - 3) ∧ m * (v2 - 3) ≤ 60480 := by
    have : v2 = 0 ∨ v2 = 1 ∨ v2 = 2 ∨ v2 = 3 ∨ v2 = 4 ∨ v2 = 5 ∨ v2 = 6 := by omega
    rcases this with rfl | rfl | rfl | rfl | rfl | rfl | rfl <;> omega
  have hz1 := hz.1
  have hz3 := hz.2
  by_cases c4 : v4 = 0
  · refine ⟨some (r + m * (v2 - 3) + k, 0), d4, ?_, ok_of (.inl rfl), ⟨by omega, by omega⟩, s4.mono (by omega)⟩
    simp! only [k__law_rest_near, k__law_rest_near_b, eR_s, e1, c1, e2, hfd, q_mulI hmul, e3, e4, c4]
  · obtain ⟨p, d5, e5, y1, y2, y3, s5⟩ := A (b + 8) d4 s4
    have b1 := Int.emod_nonneg (r + m * (v2 - 3) + k) (b := p) (by omega)
    have b2 := Int.emod_lt_of_pos (r + m * (v2 - 3) + k) y1
    refine ⟨some ((r + m * (v2 - 3) + k) % p, p), d5, ?_, ok_mk y1 y2, ⟨by omega, by omega⟩, s5.mono (by omega)⟩
    simp! only [k__law_rest_near, k__law_rest_near_b, eR_s, e1, c1, e2, hfd, q_mulI hmul, e3, e4, c4, e5, q_modI y1]
/-! ## ranks -/
def isInt (o : Option (R × List (List D))) (z : Int) : Bool := match o with
  | some (.val (.int i), []) => decide (i = z)
  | _ => false
theorem isInt_ok {o : Option (R × List (List D))} {z : Int} (h : isInt o z = true) : o = some (.val (.int z), []) := by
  unfold isInt at h
  split at h
  · rw [of_decide_eq_true h]
  · cases h
theorem primes_all : (divs84.all fun m => isInt (k_primes_in [.val (.int (m : Nat))]) (Om m : Nat)) = true := by decide +kernel
theorem lrank_all (r : Int) : (divs84.all fun m => isInt (k__law_rank_v2 [.val (.tuple [.int r, .int (m : Nat)])]) (Om m : Nat)) = true := by kernel_rfl
section
variable {f g h w : Fn}
theorem k_primes_ok {m : Int} (h1 : 0 < m) (h2 : m ∣ 20160) : k_primes_in [.val (.int m)] = some (.val (.int (Om m.natAbs : Nat)), []) := by
  have := isInt_ok (List.all_eq_true.mp primes_all _ (divs_mem h1 h2))
  rwa [show ((m.natAbs : Nat) : Int) = m by omega] at this
abbrev RankRF (f : Fn) : Prop := ∀ a : RR, okR a = true → f [.val (eR a)] = some (.val (.int (rankR a)), [])
theorem k_rankR_ok (hp : ∀ m : Int, 0 < m → m ∣ 20160 → f [.val (.int m)] = some (.val (.int (Om m.natAbs : Nat)), [])) : RankRF (k_rank_of_rest f) := fun a ha => by
  rcases a with _ | ⟨r, m⟩
  · simp! only [k_rank_of_rest, k_rank_of_rest_b, eR_n, rankR]
  · rcases ok_r ha with rfl | ⟨h1, h2, -⟩
    · simp! only [k_rank_of_rest, k_rank_of_rest_b, eR_s, rankR]
    · have c : ¬ m = 0 := by omega
      simp! only [k_rank_of_rest, k_rank_of_rest_b, eR_s, rankR, c, hp m h1 h2]
theorem k_srankR_ok (h1 : RankRF f) (h2 : ChkR g) : RankRF (k_rest_rank f g) := fun a ha => by
  simp! only [k_rest_rank, k_rest_rank_b, h1 a ha, h2 a ha]
theorem k_lrankR_ok : RankRF k__law_rank_v2 := fun a ha => by
  rcases a with _ | ⟨r, m⟩
  · simp! only [k__law_rank_v2, k__law_rank_v2_b, eR_n, rankR]
  · rcases ok_r ha with rfl | ⟨h1, h2, -⟩
    · simp! only [k__law_rank_v2, k__law_rank_v2_b, eR_s, rankR]
    · have := isInt_ok (List.all_eq_true.mp (lrank_all r) _ (divs_mem h1 h2))
      rw [show ((m.natAbs : Nat) : Int) = m by omega] at this
      rw [eR_s, this]
      show _ = some (R.val (.int (if m = 0 then 11 else (Om m.natAbs : Nat))), [])
      rw [if_neg (by omega)]
/-! ## k33 -/
theorem sz_join {a b : RR} {z : Int} (hz : 2 ^ 111 ≤ z) (ha : szR z a) (hb : szR z b) : szR z (joinR a b) := by
  rcases a with _ | ⟨r, m⟩
  · exact hb
  rcases b with _ | ⟨s, n⟩
  · exact ha
  show szR z (restBy r (grain (gcd3 m n (r - s))))
  unfold restBy
  split
  · exact ha
  · rename_i c
    rcases grain_ok (gcd3 m n (r - s)) with h | ⟨h1, h2⟩
    · exact absurd h c
    · have b1 := Int.emod_nonneg r (b := grain (gcd3 m n (r - s))) (by omega)
      have b2 := Int.emod_lt_of_pos r h1
      have b3 : grain (gcd3 m n (r - s)) ≤ 20160 := Int.le_of_dvd (by decide) h2
      exact ⟨by omega, by omega⟩
theorem two_sz {a : RR} (ha : okR a = true) (hz : szR (2 ^ 300) a) : szL (2 ^ 390) (twoOf a) := by
  rcases a with _ | ⟨r, m⟩
  · intro x hx; cases hx
  · have h1 := hz.1
    have h2 := hz.2
    have h3 := ok_nn ha
    intro x hx
    simp only [twoOf, List.mem_cons, List.not_mem_nil, or_false] at hx
    rcases hx with rfl | rfl <;> omega
abbrev LeastF (f : Fn) : Prop := ∀ ns : List Int, ns.length ≤ 100000 → szL (2 ^ 390) ns → f [.val (.list (ns.map PyData.int))] = some (.val (eR (leastR ns)), [])
theorem twoOf_len (a : RR) : (twoOf a).length ≤ 2 := by rcases a with _ | ⟨r, m⟩ <;> simp [twoOf]
theorem least_app {le tw : Fn} (hl : LeastF le) (ht : ∀ a : RR, tw [.val (eR a)] = some (.fresh ((twoOf a).map PyData.int), [])) {a b : RR} (ha : okR a = true) (hb : okR b = true) (za : szR (2 ^ 300) a) (zb : szR (2 ^ 300) b) :
    gAdd (.list ((twoOf a).map PyData.int)) (.list ((twoOf b).map PyData.int)) = some (.list ((twoOf a ++ twoOf b).map PyData.int)) ∧ le [.val (.list ((twoOf a ++ twoOf b).map PyData.int))] = some (.val (eR (joinR a b)), []) := by
  have l1 := twoOf_len a
  have l2 := twoOf_len b
  constructor
  · rw [q_addL, if_pos (by rw [List.length_map, List.length_map, q_sz]; omega), List.map_append]
  · rw [hl _ (by rw [List.length_append]; omega) (fun x hx => by
      rcases List.mem_append.mp hx with hx | hx
      · exact two_sz ha za x hx
      · exact two_sz hb zb x hx), least_join ha hb]
theorem k33_two_ok {wi jo rk sa le tw ins lr : Fn} (h1 : WithRF wi) (h2 : OpRF joinR jo) (h3 : RankRF rk) (hs : SameOk 2 sa) (l1 : LeastF le) (l2 : ∀ a : RR, tw [.val (eR a)] = some (.fresh ((twoOf a).map PyData.int), [])) (l3 : WithRF ins) (l4 : RankRF lr) {a b : RR} (ha : okR a = true) (hb : okR b = true) (za : szR (2 ^ 300) a) (zb : szR (2 ^ 300) b) :
    k__law_two_right_v10 wi jo rk sa le tw ins lr [.val (eR a), .val (eR b)] = some (.val (.bool true), []) := by
  have oj := ok_joinR ha hb
  obtain ⟨a1, a2⟩ := least_app l1 l2 ha hb za zb
  have s1 := hs (.tuple [eR (joinR a b), eR (joinR a b)]) (gd_tup 1 _ (by simp) (all_cons (gd_eR 0 _) (all_cons (gd_eR 0 _) all_nil)))
  have s2 := hs (.tuple [.int (rankR a), .int (rankR (joinR a b))]) (gd_tup 1 _ (by simp) (all_cons rfl (all_cons rfl all_nil)))
  have s3 := hs (.tuple [.bool (withinR b a), .bool true, .bool true]) (gd_tup 1 _ (by simp) (all_cons (gd_bool _ _) (all_cons (gd_bool _ _) (all_cons (gd_bool _ _) all_nil))))
  have w := within_join1 a b
  have w1 := h1 a _ ha oj
  have w2 := h1 b _ hb oj
  rw [w.1] at w1
  rw [w.2] at w2
  have w3 := h1 b a hb ha
  have l := l3 b a hb ha
  have r1 := h3 a ha
  have r2 := h3 _ oj
  have q1 := l4 a ha
  have q2 := l4 _ oj
  have d1 := h2 a b ha hb
  have t1 := l2 a
  have t2 := l2 b
  cases c : withinR b a with
  | true =>
    rw [c] at l w3 s3
    have hq := q_eqR (joinR a b) a
    rw [decide_eq_true (join_stays ha hb c)] at hq
    simp! only [k__law_two_right_v10, k__law_two_right_v10_b, t1, t2, a1, a2, d1, s1, r1, r2, q1, q2, s2, w1, w2, w3, s3, l, hq]
  | false =>
    rw [c] at l w3 s3
    have hf := rankR_fall ha hb c
    simp! only [k__law_two_right_v10, k__law_two_right_v10_b, t1, t2, a1, a2, d1, s1, r1, r2, q1, q2, s2, w1, w2, w3, s3, l, hf]
theorem k_more_ok {t p nu re rn : Fn} (T : Tk t) (P : Pk p) (N : Nm 7 (2 ^ 110) nu) (R : Rst 8 re) (Q : Rnr 16 rn) : Rnr 20 (k__law_more t p nu re rn) := by
  intro b ds o z h ho hz hz2
  rcases o with _ | ⟨r, m⟩
  · obtain ⟨v1, d1, e1, p1, q1, s1⟩ := T (b + 19) ds 8 h (by decide) (by decide)
    by_cases c : 0 < v1
    · obtain ⟨v, d2, e2, z1, z2, s2⟩ := N (b + 12) d1 s1
      refine ⟨some (v, 0), d2, ?_, ok_of (.inl rfl), ⟨by omega, by omega⟩, s2.mono (by omega)⟩
      simp! only [k__law_more, k__law_more_b, eR_n, eR_s, e1, c, e2]
    · obtain ⟨a, d2, e2, oa, za, s2⟩ := R (b + 11) d1 s1
      refine ⟨a, d2, ?_, oa, za.mono (by omega), s2.mono (by omega)⟩
      simp! only [k__law_more, k__law_more_b, eR_n, e1, c, e2]
  obtain ⟨v1, d1, e1, p1, q1, s1⟩ := T (b + 19) ds 5 h (by decide) (by decide)
  by_cases c0 : v1 = 0
  · obtain ⟨a, d2, e2, oa, za, s2⟩ := Q (b + 3) d1 (some (r, m)) z s1 ho hz hz2
    refine ⟨a, d2, ?_, oa, za, s2.mono (by omega)⟩
    have hq : gEq (eR (some (r, m))) (.tuple []) = some (.bool false) := q_eqT1
    generalize eR (some (r, m)) = de at e2 hq ⊢
    simp! only [k__law_more, k__law_more_b, hq, e1, c0, e2]
  have hm := ok_nn ho
  have hz1 := hz.1
  have hz3 := hz.2
  by_cases c1 : v1 = 1
  · subst c1
    obtain ⟨v2, d2, e2, p2, q2, s2⟩ := T (b + 18) d1 5 s1 (by decide) (by decide)
    have hmul : mulOk m (v2 - 2) = true := mulOk_lt (a := 20) (b := 4) (by omega) (by omega) (by decide)
    have hb : -60480 ≤ m * (v2 - 2) ∧ m * (v2 - 2) ≤ 60480 := by
      have : v2 = 0 ∨ v2 = 1 ∨ v2 = 2 ∨ v2 = 3 ∨ v2 = 4 := by omega
      rcases this with rfl | rfl | rfl | rfl | rfl <;> omega
    refine ⟨some (r + m * (v2 - 2), 0), d2, ?_, ok_of (.inl rfl), ⟨by omega, by omega⟩, s2.mono (by omega)⟩
    simp! only [k__law_more, k__law_more_b, eR_s, e1, show ¬ (1:Int) = 0 by decide, e2, q_mulI hmul]
  have far : ∃ (k : Int) (d2 : List D), 0 ≤ k ∧ k ≤ 300000 ∧ Src (b + 18) d2 ∧ (sSet 3 (eIf (eB (eOp gGt (eItemN 1 (eC (.int 1))) (eC (.int 0)))) (rV (eItemN 1 (eC (.int 1)))) (eCall p (aSlot 0 (aVal (eTup (dCons (eC (.int 20160)) (dCons (eC (.int 40320)) (dCons (eC (.int 60480)) (dCons (eOp gMul (eC (.int 20160)) (eC (.int 11))) (dCons (eC (.int 10080)) (dCons (eC (.int 6720)) dNil))))))) aNil)))))
      [.par d1, .val (.tuple [.int r, .int m]), .val (.int v1), .no] = some (.nx, [.par d2, .val (.tuple [.int r, .int m]), .val (.int v1), .val (.int k)]) := by
    by_cases c : 0 < m
    · refine ⟨m, d1, hm.1, by omega, s1.mono (by omega), ?_⟩
      simp! only [c]
    · have hmul : mulOk 20160 11 = true := by decide +kernel
      obtain ⟨x, hx, d2, e2, s2⟩ := pick_tup P (b := b + 18) (xs := [.int 20160, .int 40320, .int 60480, .int (20160 * 11), .int 10080, .int 6720]) s1 (by simp) (by simp)
      have hx2 : ∃ k : Int, x = .int k ∧ 0 ≤ k ∧ k ≤ 300000 := by
        simp only [List.mem_cons, List.not_mem_nil, or_false] at hx
        rcases hx with rfl | rfl | rfl | rfl | rfl | rfl <;> exact ⟨_, rfl, by decide, by decide⟩
      obtain ⟨k, rfl, k1, k2⟩ := hx2
      refine ⟨k, d2, k1, k2, s2, ?_⟩
      simp! only [c, q_mulI hmul, e2]
  obtain ⟨k, d2, k1, k2, s2, far⟩ := far
  obtain ⟨x, hx, d3, e3, s3⟩ := pick_tup P (b := b + 17) (xs := [.int 1, .int 2, .int 2, .int 2, .int 3, .int 5, .int 7]) s2 (by simp) (by simp)
  have hx2 : ∃ j : Int, x = .int j ∧ 1 ≤ j ∧ j ≤ 7 := by
    simp only [List.mem_cons, List.not_mem_nil, or_false] at hx
    rcases hx with rfl | rfl | rfl | rfl | rfl | rfl | rfl <;> exact ⟨_, rfl, by decide, by decide⟩
  obtain ⟨j, rfl, j1, j2⟩ := hx2
  have hfd : gFdiv (.int k) (.int j) = some (.int (k / j)) := q_fdivI (by omega) (log2_of (by omega) (by omega))
  have hkj : 0 ≤ k / j ∧ k / j ≤ k := ⟨Int.ediv_nonneg k1 (by omega), Int.ediv_le_self _ k1⟩
  refine ⟨some (r + k / j, 0), d3, ?_, ok_of (.inl rfl), ⟨by omega, by omega⟩, s3.mono (by omega)⟩
  rw [eR_s, eR_s]
  refine fn_rt (b := k__law_more_b t p nu re rn) (e := [.par d3, .val (.tuple [.int r, .int m]), .val (.int v1), .val (.int k)]) ?_ rfl
  unfold k__law_more_b
  refine seq_nx (e1 := [.par ds, .val (.tuple [.int r, .int m]), .no, .no]) (by simp! only [x_C]) ?_
  refine seq_nx (e1 := [.par d1, .val (.tuple [.int r, .int m]), .val (.int v1), .no]) (by simp! only [e1]) ?_
  refine seq_nx (e1 := [.par d1, .val (.tuple [.int r, .int m]), .val (.int v1), .no]) (by simp! only [c0]) ?_
  refine seq_nx (e1 := [.par d1, .val (.tuple [.int r, .int m]), .val (.int v1), .no]) (by simp! only [c1]) ?_
  refine seq_nx far ?_
  simp! only [e3, hfd]
end
end Ev
namespace Ev
local macro_rules
  | `(tactic| simp! only [$as,*]) => `(tactic| simp only [↓x_var, ↓x_C, ↓x_op, ↓x_fz, ↓x_rV, ↓x_B, ↓x_chain, ↓x_tru, ↓x_notT, ↓x_andT, ↓x_orT, ↓x_and, ↓x_or, ↓x_not, ↓x_neg, ↓x_if, ↓x_aNil, ↓x_aVal, ↓x_aSlot, ↓x_aTmp, ↓x_aR, ↓x_call, ↓x_callK, ↓x_dNil, ↓x_dCons, ↓x_tup, ↓x_lst, ↓x_itemN, ↓x_ownItem, ↓x_lenN, ↓x_blt, ↓x_isi, ↓x_list, ↓x_rgL1, ↓x_rgL2, ↓x_iSeq, ↓x_iZip, ↓x_range1, ↓x_range2, ↓x_addR, ↓x_slice, ↓x_partN, ↓x_partS, ↓x_comp, ↓x_skip, ↓x_stuck, ↓x_break, ↓x_cont, ↓x_seq, ↓x_sIf, ↓x_sExpr, ↓x_ret, ↓x_retN, ↓x_move, ↓x_setRv, ↓x_setRf, ↓x_set, ↓x_gN, ↓x_gsNil, ↓x_gsCons, ↓x_gTup, ↓x_gIx, ↓x_setAt, ↓x_asg, ↓x_par, ↓x_sm0, ↓x_smV, ↓x_smF, ↓x_app, ↓x_for, ↓x_for0, ↓x_for1, ↓x_comp0, ↓x_comp1, ↓x_fn, ↓x_iEnum, ↓x_range3, ↓x_comp2, ↓x_compN0, ↓x_compN1, q_addI, q_addT, q_addL, q_subI, q_ltI, q_leI, q_gtI, q_geI, q_isN, q_isNotN, q_eqI, q_neI, q_eqB, q_eqT0, q_eqT1, q_neT0, q_neT1, q_eqL0, q_eqL1, q_neL0, q_neL1, q_int, q_abs, q_min2, q_max2, q_at0, q_at1, q_at2, q_at3, q_ix0, q_ix1, q_ix2, q_sz, q_iteS, q_iteT, q_iteR, q_iteV, q_iteBB, q_iteII, q_iteAnd, q_iteOr, q_iteNot, q_iteCon, q_pa0, q_pa1, q_pa2, q_pa3, q_ow0, q_ow1, q_ow2, q_ow3, q_c0, q_c1, q_c2, q_c3, q_c4, q_c5, q_c6, q_c7, q_c8, q_c9, q_c10, q_c11, q_c12, q_all0, q_all1, q_all2, q_all3, q_inN2, q_inN0, q_02a, q_02b, List.getElem?_cons_zero, List.getElem?_cons_succ, List.set_cons_zero, List.set_cons_succ, wipeE, initE, outsOf, toAv, slotsOf, putOuts, natNodup, List.map_cons, List.map_nil, List.cons_append, List.nil_append, List.append_nil, List.replicate, List.length_cons, List.length_nil, isNone, isiD, seqD, gItem, truD, zipOf, zipD, pick, List.contains_nil, List.contains_cons, eq_self, if_true, if_false, Bool.false_eq_true, Bool.true_eq_false, Bool.not_true, Bool.not_false, reduceIte, decide_true, decide_false, Nat.reduceAdd, Nat.reduceSub, Nat.zero_add, Nat.add_zero, and_self, true_and, and_true, Bool.and_true, Bool.true_and, Bool.or_false, Bool.false_or, Bool.or_true, Bool.true_or, Bool.and_false, Bool.false_and, Bool.or_self, Bool.and_self, Nat.sub_self, Option.map_some, Option.map_none, Nat.reduceBEq, Bool.not_eq_true, beq_self_eq_true, Nat.reduceLeDiff, Nat.reduceLT, Nat.reduceEqDiff, List.filterMap_cons, List.filterMap_nil, $as,*])
open PySem PySem.Spec PyProof.Rows L2
theorem rankR_nn (a : RR) : 0 ≤ rankR a := by
  rcases a with _ | ⟨r, m⟩
  · show (0:Int) ≤ 12; decide
  · show (0:Int) ≤ if m = 0 then (11:Int) else ((Om m.natAbs : Nat) : Int)
    split <;> omega
abbrev Two33 (f : Fn) : Prop := ∀ a b : RR, okR a = true → okR b = true → szR (2 ^ 300) a → szR (2 ^ 300) b → f [.val (eR a), .val (eR b)] = some (.val (.bool true), [])
theorem k33_row_ok {jo ta mo tw : Fn} (J : OpRF joinR jo) (T : Tk ta) (M : Rnr 20 mo) (H : Two33 tw) :
    ∀ (b : Nat) (ds : List D), Src (b + 1000) ds → ∃ ds', k__law_row_right_v2 jo ta mo tw [.own ds] = some (.val (.bool true), [ds']) ∧ Src b ds' := by
  intro b ds h
  obtain ⟨v, d1, e1, p1, q1, s1⟩ := T (b + 500) ds 15 (h.mono (by omega)) (by decide) (by decide)
  obtain ⟨n, hn⟩ : ∃ n : Nat, 6 + v = (n : Int) := ⟨(6 + v).toNat, by omega⟩
  have hn15 : n ≤ 20 := by omega
  have hlen : (rangeD 0 ((n : Int) - 0).toNat).length = n := by unfold rangeD; rw [List.length_map, List.length_range]; omega
  obtain ⟨e, he, k, c, d3, s2, s5, s6, rfl, f2, f5, f6, hk, hkz, hc0, hc, g3⟩ := forL_cnt (g := gN 1) (b := k__law_row_right_v2_l1 jo mo tw)
    (I := fun m e => ∃ (k : RR) (c : Int) (d3 : List D) (s2 s5 s6 : Sl), e = [.par d3, s2, .val (eR k), .val (.int c), s5, s6] ∧ Fr s2 ∧ Fr s5 ∧ Fr s6 ∧ okR k = true ∧ szR (2 ^ 111 + 400000 * (m : Nat)) k ∧ 0 ≤ c ∧ c + rankR k ≤ 12 ∧ Src (b + 20 * (21 - m)) d3) (rangeD 0 ((n : Int) - 0).toNat) 0 [.par d1, .no, .val (.tuple []), .val (.int 0), .no, .no]
    ⟨none, 0, d1, _, _, _, rfl, rfl, rfl, rfl, rfl, trivial, by omega, by show (0 : Int) + 12 ≤ _; omega, s1.mono (by omega)⟩ (by
      rintro d hd m e hmm ⟨k, c, d3, s2, s5, s6, rfl, f2, f5, f6, hk, hkz, hc0, hc, g3⟩
      rw [hlen] at hmm
      obtain ⟨o, d4, e4, oo, oz, g4⟩ := M (b + 20 * (21 - (m + 1))) d3 k (2 ^ 111 + 400000 * (m : Nat)) (by rw [show b + 20 * (21 - (m + 1)) + 20 = b + 20 * (21 - m) by omega]; exact g3) hk hkz (by omega)
      have t := H k o hk oo (hkz.mono (by omega)) (oz.mono (by omega))
      have wv := J k o hk oo
      have hq := q_neR (joinR k o) k
      have hz3 : szR (2 ^ 111 + 400000 * ((m + 1 : Nat) : Int)) (joinR k o) := sz_join (by omega) (hkz.mono (by omega)) (oz.mono (by omega))
      have ow : okR (joinR k o) = true := ok_joinR hk oo
      refine ⟨[.par d3, .val d, .val (eR k), .val (.int c), s5, s6], [.par d4, .val d, .val (eR (joinR k o)), .val (.int (c + (if (!decide (joinR k o = k)) = true then 1 else 0))), .val (eR o), .val (eR (joinR k o))], ?_, ?_, joinR k o, _, d4, _, _, _, rfl, rfl, rfl, rfl, ow, hz3, ?_, ?_, g4⟩
      · simp! only [show isPar s2 = false from f2]
      · cases cc : (!decide (joinR k o = k)) with
        | true =>
          rw [cc] at hq
          simp! only [k__law_row_right_v2_l1, e4, t, wv, hq, show isPar s5 = false from f5, show isPar s6 = false from f6]
        | false =>
          rw [cc] at hq
          simp! only [k__law_row_right_v2_l1, e4, t, wv, hq, show isPar s5 = false from f5, show isPar s6 = false from f6]
      · split <;> omega
      · by_cases cc : joinR k o = k
        · rw [decide_eq_true cc, if_neg (by decide), cc]; omega
        · have hw : withinR o k = false := by
            cases q : withinR o k with
            | false => rfl
            | true => exact absurd (join_stays hk oo q) cc
          have := rankR_fall hk oo hw
          rw [decide_eq_false cc, if_pos (by decide)]
          omega)
  rw [hlen, Nat.zero_add] at g3
  have hr := rankR_nn k
  have hle : c ≤ 12 := by omega
  refine ⟨d3, ?_, g3.mono (by omega)⟩
  simp! only [k__law_row_right_v2, k__law_row_right_v2_b, e1, hn, he, hle]
theorem k33_right_ok {rk re rn ins tw rw_ : Fn} (K : RankRF rk) (R : Rst 8 re) (Q : Rnr 16 rn) (I : WithRF ins) (H : Two33 tw)
    (W : ∀ (b : Nat) (ds : List D), Src (b + 1000) ds → ∃ ds', rw_ [.own ds] = some (.val (.bool true), [ds']) ∧ Src b ds') : Rg (k__law_right_v11 rk re rn ins tw rw_) := by
  intro ds h
  obtain ⟨d2, e2, s2⟩ := W 99998000 ds (h.mono (by decide))
  obtain ⟨a, d3, e3, oa, za, s3⟩ := R 99997000 d2 (s2.mono (by decide))
  obtain ⟨b, d4, e4, ob, zb, s4⟩ := Q 99996000 d3 a (2 ^ 111) (s3.mono (by decide)) oa za (by decide)
  have t1 := H a b oa ob (za.mono (by omega)) (zb.mono (by omega))
  have t2 := H b a ob oa (zb.mono (by omega)) (za.mono (by omega))
  have w := I a b oa ob
  have k1 := K a oa
  have k2 := K b ob
  have hq := q_eqR a b
  refine ⟨d4, ?_⟩
  cases c : decide (a = b) with
  | true =>
    rw [c] at hq
    simp! only [k__law_right_v11, k__law_right_v11_b, e2, e3, e4, t1, t2, hq]
  | false =>
    rw [c] at hq
    cases c2 : withinR a b with
    | false =>
      rw [c2] at w
      simp! only [k__law_right_v11, k__law_right_v11_b, e2, e3, e4, t1, t2, hq, w]
    | true =>
      rw [c2] at w
      have hl := rankR_lt oa ob c2 (of_decide_eq_false c)
      simp! only [k__law_right_v11, k__law_right_v11_b, e2, e3, e4, t1, t2, hq, w, k1, k2, hl, show rankR a > rankR b from hl]
end Ev
namespace Ev
open PySem PySem.Spec PyProof.Rows L2
/-! ## k25: sums and products -/
def plusE : EE → EE → EE
  | some x, some y => some (x + y)
  | _, _ => none
def sumS : SS → SS → SS
  | some (l, h), some (l2, h2) => some (plusE l l2, plusE h h2)
  | _, _ => none
abbrev Cn := Int × Int
def sgn (i : Int) : Int := b01 (decide (0 < i)) - b01 (decide (i < 0))
theorem sgn_pos {i : Int} (h : 0 < i) : sgn i = 1 := by
  unfold sgn
  rw [decide_eq_true h, decide_eq_false (by omega)]
  rfl
theorem sgn_neg {i : Int} (h : i < 0) : sgn i = -1 := by
  unfold sgn
  rw [decide_eq_true h, decide_eq_false (by omega)]
  rfl
theorem sgn_zero : sgn 0 = 0 := rfl
def sideE (s : Int) : EE → Int
  | none => s
  | some i => sgn i
def cornE (s t : Int) : EE → EE → Cn
  | some x, some y => (0, x * y)
  | a, b => (sideE s a * sideE t b, 0)
def corners (l h l2 h2 : EE) : List Cn := [cornE (-1) (-1) l l2, cornE (-1) 1 l h2, cornE 1 (-1) h l2, cornE 1 1 h h2]
def finC (cs : List Cn) : List Int := (cs.filter fun c => decide (c.1 = 0)).map (·.2)
def minV : List Int → EE
  | [] => none
  | n :: ns => some (ns.foldl min n)
def maxV : List Int → EE
  | [] => none
  | n :: ns => some (ns.foldl max n)
def loC (cs : List Cn) : EE := if (cs.any fun c => decide (c.1 < 0)) = true then none else minV (finC cs)
def hiC (cs : List Cn) : EE := if (cs.any fun c => decide (0 < c.1)) = true then none else maxV (finC cs)
def prodS : SS → SS → SS
  | some (l, h), some (l2, h2) => some (loC (corners l h l2 h2), hiC (corners l h l2 h2))
  | _, _ => none
def sideP (s : Int) : EE → Cn
  | none => (s, 0)
  | some i => (0, i)
/-! ### sorted pairs -/
theorem atI_0 {d : D} {ds : List D} : atI (d :: ds) 0 = some d := by
  unfold atI
  rw [q_ixN (by omega) (by rw [List.length_cons]; omega)]
  rfl
theorem atI_c0 {f : Cn → D} {d : Cn} {ds : List Cn} : atI ((d :: ds).map f) 0 = some (f d) := by rw [List.map_cons, atI_0]
theorem atI_last {d : D} {ds : List D} : atI (ds ++ [d]) (-1) = some d := by
  unfold atI
  have e : ixN (ds ++ [d]).length (-1) = some ds.length := by
    unfold ixN
    rw [if_neg (by omega), List.length_append, List.length_singleton, if_pos (by omega)]
    congr 1
    omega
  rw [e]
  simp
theorem pairsOf_map : ∀ ps : List Cn, pairsOf (ps.map eP2) = some ps
  | [] => rfl
  | p :: ps => by
    show (pairsOf (ps.map eP2)).map _ = _
    rw [pairsOf_map ps]
    rfl
theorem q_sortedP {p : Cn} {ps : List Cn} : gSorted [.list ((p :: ps).map eP2)] = some (.list ((sortP (p :: ps)).map eP2)) := by
  show (match intsOf (eP2 p :: ps.map eP2) with | some ns => some (PyData.list ((sortI ns).map .int)) | none => (match pairsOf ((p :: ps).map eP2) with | some qs => some (PyData.list ((sortP qs).map eP2)) | none => none)) = _
  rw [pairsOf_map]
  rfl
theorem sortP_ends {cs : List Cn} (h : cs ≠ []) : ∃ lo hi, atI ((sortP cs).map eP2) 0 = some (eP2 lo) ∧ atI ((sortP cs).map eP2) (-1) = some (eP2 hi) ∧ lo ∈ cs ∧ hi ∈ cs ∧ (∀ c ∈ cs, lexLe lo c = true) ∧ ∀ c ∈ cs, lexLe c hi = true := by
  have hp := sortP_perm cs
  have hl := sortP_le cs
  have hne : sortP cs ≠ [] := fun z => h (by rw [z] at hp; exact hp.symm.eq_nil)
  obtain ⟨a, as, ha⟩ := List.exists_cons_of_ne_nil hne
  obtain ⟨bs, z, hd⟩ : ∃ bs z, sortP cs = bs ++ [z] := ⟨_, _, (List.dropLast_concat_getLast hne).symm⟩
  have refl : ∀ c, lexLe c c = true := fun c => by rw [lexLe_iff]; omega
  refine ⟨a, z, ?_, ?_, ?_, ?_, fun c hc => ?_, fun c hc => ?_⟩
  · rw [ha, atI_c0]
  · rw [hd, List.map_append, List.map_singleton, atI_last]
  · exact hp.mem_iff.mp (by rw [ha]; exact List.mem_cons_self ..)
  · exact hp.mem_iff.mp (by rw [hd]; exact List.mem_append_right _ (List.mem_singleton_self _))
  · have hc' := hp.mem_iff.mpr hc
    rw [ha] at hc' hl
    rcases List.mem_cons.mp hc' with rfl | hc'
    · exact refl _
    · exact (List.pairwise_cons.mp hl).1 c hc'
  · have hc' := hp.mem_iff.mpr hc
    rw [hd] at hc' hl
    rcases List.mem_append.mp hc' with hc' | hc'
    · exact (List.pairwise_append.mp hl).2.2 c hc' _ (List.mem_singleton_self _)
    · rw [List.mem_singleton.mp hc']; exact refl _
theorem minV_of {ns : List Int} {p : Int} (hp : p ∈ ns) (h : ∀ x ∈ ns, p ≤ x) : minV ns = some p := by
  cases ns with
  | nil => cases hp
  | cons n ns =>
    obtain ⟨a1, a2, a3⟩ := foldl_min ns n
    have m1 : ns.foldl min n ∈ n :: ns := by rcases a1 with e | e; (rw [e]; exact List.mem_cons_self ..); exact List.mem_cons_of_mem _ e
    have l1 : ns.foldl min n ≤ p := by rcases List.mem_cons.mp hp with rfl | e; exact a2; exact a3 p e
    have := h _ m1
    show some _ = _
    rw [show ns.foldl min n = p by omega]
theorem maxV_of {ns : List Int} {p : Int} (hp : p ∈ ns) (h : ∀ x ∈ ns, x ≤ p) : maxV ns = some p := by
  cases ns with
  | nil => cases hp
  | cons n ns =>
    obtain ⟨a1, a2, a3⟩ := foldl_max ns n
    have m1 : ns.foldl max n ∈ n :: ns := by rcases a1 with e | e; (rw [e]; exact List.mem_cons_self ..); exact List.mem_cons_of_mem _ e
    have l1 : p ≤ ns.foldl max n := by rcases List.mem_cons.mp hp with rfl | e; exact a2; exact a3 p e
    have := h _ m1
    show some _ = _
    rw [show ns.foldl max n = p by omega]
theorem fin_mem {cs : List Cn} {v : Int} : v ∈ finC cs ↔ (0, v) ∈ cs := by
  unfold finC
  rw [List.mem_map]
  constructor
  · rintro ⟨⟨a, b⟩, h1, rfl⟩
    obtain ⟨h2, h3⟩ := List.mem_filter.mp h1
    have h3 : a = 0 := of_decide_eq_true h3
    subst h3
    exact h2
  · intro h
    exact ⟨(0, v), List.mem_filter.mpr ⟨h, rfl⟩, rfl⟩
theorem lo_of {cs : List Cn} {lo : Cn} (hm : lo ∈ cs) (hl : ∀ c ∈ cs, lexLe lo c = true) (hn : ¬ 0 < lo.1) : (if lo.1 < 0 then none else some lo.2) = loC cs := by
  unfold loC
  by_cases c : lo.1 < 0
  · rw [if_pos c, if_pos (List.any_eq_true.mpr ⟨lo, hm, decide_eq_true c⟩)]
  · have e : lo = (0, lo.2) := Prod.ext (by omega) rfl
    rw [if_neg c, if_neg]
    · rw [e] at hm
      refine (minV_of (fin_mem.mpr hm) fun x hx => ?_).symm
      have := hl _ (fin_mem.mp hx)
      rw [lexLe_iff] at this
      have h1 : lo.1 = 0 := by omega
      simp only [h1] at this
      omega
    · intro z
      obtain ⟨c, hc, h2⟩ := List.any_eq_true.mp z
      have h2 := of_decide_eq_true h2
      have := hl c hc
      rw [lexLe_iff] at this
      omega
theorem hi_of {cs : List Cn} {hi : Cn} (hm : hi ∈ cs) (hl : ∀ c ∈ cs, lexLe c hi = true) (hn : ¬ hi.1 < 0) : (if 0 < hi.1 then none else some hi.2) = hiC cs := by
  unfold hiC
  by_cases c : 0 < hi.1
  · rw [if_pos c, if_pos (List.any_eq_true.mpr ⟨hi, hm, decide_eq_true c⟩)]
  · have e : hi = (0, hi.2) := Prod.ext (by omega) rfl
    rw [if_neg c, if_neg]
    · rw [e] at hm
      refine (maxV_of (fin_mem.mpr hm) fun x hx => ?_).symm
      have := hl _ (fin_mem.mp hx)
      rw [lexLe_iff] at this
      have h1 : hi.1 = 0 := by omega
      simp only [h1] at this
      omega
    · intro z
      obtain ⟨c, hc, h2⟩ := List.any_eq_true.mp z
      have h2 := of_decide_eq_true h2
      have := hl c hc
      rw [lexLe_iff] at this
      omega
/-- not all corners are beyond all numbers on one side -/
theorem corners_mixed (l h l2 h2 : EE) : (∃ c ∈ corners l h l2 h2, c.1 ≤ 0) ∧ ∃ c ∈ corners l h l2 h2, 0 ≤ c.1 := by
  unfold corners
  rcases l with _ | l <;> rcases h with _ | h <;> rcases l2 with _ | l2 <;> rcases h2 with _ | h2 <;> simp only [cornE, sideE, List.mem_cons, List.not_mem_nil, or_false, exists_eq_or_imp, exists_eq_left] <;> omega
end Ev
namespace Ev
local macro_rules
  | `(tactic| simp! only [$as,*]) => `(tactic| simp only [↓x_var, ↓x_C, ↓x_op, ↓x_fz, ↓x_rV, ↓x_B, ↓x_chain, ↓x_tru, ↓x_notT, ↓x_andT, ↓x_orT, ↓x_and, ↓x_or, ↓x_not, ↓x_neg, ↓x_if, ↓x_aNil, ↓x_aVal, ↓x_aSlot, ↓x_aTmp, ↓x_aR, ↓x_call, ↓x_callK, ↓x_dNil, ↓x_dCons, ↓x_tup, ↓x_lst, ↓x_itemN, ↓x_ownItem, ↓x_lenN, ↓x_blt, ↓x_isi, ↓x_list, ↓x_rgL1, ↓x_rgL2, ↓x_iSeq, ↓x_iZip, ↓x_range1, ↓x_range2, ↓x_addR, ↓x_slice, ↓x_partN, ↓x_partS, ↓x_comp, ↓x_skip, ↓x_stuck, ↓x_break, ↓x_cont, ↓x_seq, ↓x_sIf, ↓x_sExpr, ↓x_ret, ↓x_retN, ↓x_move, ↓x_setRv, ↓x_setRf, ↓x_set, ↓x_gN, ↓x_gsNil, ↓x_gsCons, ↓x_gTup, ↓x_gIx, ↓x_setAt, ↓x_asg, ↓x_par, ↓x_sm0, ↓x_smV, ↓x_smF, ↓x_app, ↓x_for, ↓x_for0, ↓x_for1, ↓x_comp0, ↓x_comp1, ↓x_fn, ↓x_iEnum, ↓x_range3, ↓x_comp2, ↓x_compN0, ↓x_compN1, q_addI, q_addT, q_addL, q_subI, q_ltI, q_leI, q_gtI, q_geI, q_isN, q_isNotN, q_eqI, q_neI, q_eqB, q_eqT0, q_eqT1, q_neT0, q_neT1, q_eqL0, q_eqL1, q_neL0, q_neL1, q_int, q_abs, q_min2, q_max2, q_at0, q_at1, q_at2, q_at3, q_ix0, q_ix1, q_ix2, q_sz, q_iteS, q_iteT, q_iteR, q_iteV, q_iteBB, q_iteII, q_iteAnd, q_iteOr, q_iteNot, q_iteCon, q_pa0, q_pa1, q_pa2, q_pa3, q_ow0, q_ow1, q_ow2, q_ow3, q_c0, q_c1, q_c2, q_c3, q_c4, q_c5, q_c6, q_c7, q_c8, q_c9, q_c10, q_c11, q_c12, q_all0, q_all1, q_all2, q_all3, q_inN2, q_inN0, q_02a, q_02b, List.getElem?_cons_zero, List.getElem?_cons_succ, List.set_cons_zero, List.set_cons_succ, wipeE, initE, outsOf, toAv, slotsOf, putOuts, natNodup, List.map_cons, List.map_nil, List.cons_append, List.nil_append, List.append_nil, List.replicate, List.length_cons, List.length_nil, isNone, isiD, seqD, gItem, truD, zipOf, zipD, pick, List.contains_nil, List.contains_cons, eq_self, if_true, if_false, Bool.false_eq_true, Bool.true_eq_false, Bool.not_true, Bool.not_false, reduceIte, decide_true, decide_false, Nat.reduceAdd, Nat.reduceSub, Nat.zero_add, Nat.add_zero, and_self, true_and, and_true, Bool.and_true, Bool.true_and, Bool.or_false, Bool.false_or, Bool.or_true, Bool.true_or, Bool.and_false, Bool.false_and, Bool.or_self, Bool.and_self, Nat.sub_self, Option.map_some, Option.map_none, Nat.reduceBEq, Bool.not_eq_true, beq_self_eq_true, Nat.reduceLeDiff, Nat.reduceLT, Nat.reduceEqDiff, List.filterMap_cons, List.filterMap_nil, $as,*])
open PySem PySem.Spec PyProof.Rows L2
section
variable {f g h w : Fn}
theorem q_subB {a b : Bool} : gSub (.bool a) (.bool b) = some (.int (b01 a - b01 b)) := rfl
theorem k_sign_ok (i : Int) : k_sign_of [.val (.int i)] = some (.val (.int (sgn i)), []) := by
  simp! only [k_sign_of, k_sign_of_b, q_subB, sgn]
theorem k_plusE_ok (x y : EE) : k_end_sum [.val (eE x), .val (eE y)] = some (.val (eE (plusE x y)), []) := by
  cases x <;> cases y <;> rfl
theorem k_sum_ok (h1 : ∀ x y, f [.val (eE x), .val (eE y)] = some (.val (eE (plusE x y)), [])) (a b : SS) : k_sum_stretch f [.val (eS a), .val (eS b)] = some (.val (eS (sumS a b)), []) := by
  rcases a with _ | ⟨l, r⟩ <;> rcases b with _ | ⟨l2, r2⟩ <;> simp! only [k_sum_stretch, k_sum_stretch_b, eS_n, eS_s, sumS, h1]
theorem k_sides_ok (l r : EE) : k_sides_of [.val (eS (some (l, r)))] = some (.fresh [eP2 (sideP (-1) l), eP2 (sideP 1 r)], []) := by
  cases l <;> cases r <;> simp! only [k_sides_of, k_sides_of_b, eS_s, eE_n, eE_s, sideP, eP2]
theorem szmul {x y : Int} (hx : -(2 ^ 200) ≤ x ∧ x ≤ 2 ^ 200) (hy : -(2 ^ 200) ≤ y ∧ y ≤ 2 ^ 200) : mulOk x y = true := mulOk_lt (a := 201) (b := 201) (by omega) (by omega) (by decide)
theorem sgn_sz (i : Int) : -1 ≤ sgn i ∧ sgn i ≤ 1 := by
  unfold sgn b01
  split <;> split <;> omega
theorem k_side_product_ok (h1 : ∀ i, f [.val (.int i)] = some (.val (.int (sgn i)), [])) {s t : Int} (hs : s = 1 ∨ s = -1) (ht : t = 1 ∨ t = -1) {x y : EE} (hx : szE (2 ^ 200) x) (hy : szE (2 ^ 200) y) :
    k_side_product f [.val (eP2 (sideP s x)), .val (eP2 (sideP t y))] = some (.val (eP2 (cornE s t x y)), []) := by
  have hs0 : ¬ s = 0 := by omega
  have ht0 : ¬ t = 0 := by omega
  rcases x with _ | x <;> rcases y with _ | y
  · have m := szmul (x := s) (y := t) (by omega) (by omega)
    simp! only [k_side_product, k_side_product_b, sideP, eP2, hs0, ht0, h1, sgn_zero, q_mulI m, Int.add_zero, cornE, sideE]
  · have m := szmul (x := s) (y := sgn y) (by omega) (by have := sgn_sz y; omega)
    simp! only [k_side_product, k_side_product_b, sideP, eP2, hs0, ht0, h1, sgn_zero, Int.zero_add, Int.add_zero, q_mulI m, cornE, sideE]
  · have m := szmul (x := sgn x) (y := t) (by have := sgn_sz x; omega) (by omega)
    simp! only [k_side_product, k_side_product_b, sideP, eP2, hs0, ht0, h1, sgn_zero, Int.zero_add, Int.add_zero, q_mulI m, cornE, sideE]
  · have m := szmul hx hy
    simp! only [k_side_product, k_side_product_b, sideP, eP2, q_mulI m, cornE]
theorem k_product_ok (h1 : ∀ l r, f [.val (eS (some (l, r)))] = some (.fresh [eP2 (sideP (-1) l), eP2 (sideP 1 r)], []))
    (h2 : ∀ (s t : Int) x y, s = 1 ∨ s = -1 → t = 1 ∨ t = -1 → szE (2 ^ 200) x → szE (2 ^ 200) y → g [.val (eP2 (sideP s x)), .val (eP2 (sideP t y))] = some (.val (eP2 (cornE s t x y)), [])) {a b : SS} (ha : szS (2 ^ 200) a) (hb : szS (2 ^ 200) b) :
    k_product_stretch f g [.val (eS a), .val (eS b)] = some (.val (eS (prodS a b)), []) := by
  rcases a with _ | ⟨l, r⟩
  · rcases b with _ | ⟨l2, r2⟩ <;> simp! only [k_product_stretch, k_product_stretch_b, eS_n, eS_s, prodS]
  rcases b with _ | ⟨l2, r2⟩
  · simp! only [k_product_stretch, k_product_stretch_b, eS_n, eS_s, prodS]
  have a1 := h1 l r
  have a2 := h1 l2 r2
  have p1 := h2 (-1) (-1) l l2 (.inr rfl) (.inr rfl) ha.1 hb.1
  have p2 := h2 (-1) 1 l r2 (.inr rfl) (.inl rfl) ha.1 hb.2
  have p3 := h2 1 (-1) r l2 (.inl rfl) (.inr rfl) ha.2 hb.1
  have p4 := h2 1 1 r r2 (.inl rfl) (.inl rfl) ha.2 hb.2
  have sp : gSorted [.list [eP2 (cornE (-1) (-1) l l2), eP2 (cornE (-1) 1 l r2), eP2 (cornE 1 (-1) r l2), eP2 (cornE 1 1 r r2)]] = some (.list ((sortP (corners l r l2 r2)).map eP2)) := q_sortedP (p := cornE (-1) (-1) l l2) (ps := [cornE (-1) 1 l r2, cornE 1 (-1) r l2, cornE 1 1 r r2])
  obtain ⟨lo, hi, e1, e2, m1, m2, b1, b2⟩ := sortP_ends (cs := corners l r l2 r2) (by simp [corners])
  obtain ⟨⟨c1, mc1, n1⟩, ⟨c2, mc2, n2⟩⟩ := corners_mixed l r l2 r2
  have l1 := lo_of m1 b1 (by have := b1 _ mc1; rw [lexLe_iff] at this; omega)
  have l2' := hi_of m2 b2 (by have := b2 _ mc2; rw [lexLe_iff] at this; omega)
  have hx : eS (prodS (some (l, r)) (some (l2, r2))) = .tuple [eE (loC (corners l r l2 r2)), eE (hiC (corners l r l2 r2))] := rfl
  rw [hx, ← l1, ← l2']
  obtain ⟨lo1, lo2⟩ := lo
  obtain ⟨hi1, hi2⟩ := hi
  generalize ea : eS (some (l, r)) = da at a1
  generalize eb : eS (some (l2, r2)) = db at a2
  have q1 : gEq da (.tuple []) = some (.bool false) := by rw [← ea]; exact q_eqT1
  have q2 : gEq db (.tuple []) = some (.bool false) := by rw [← eb]; exact q_eqT1
  simp only [eP2] at p1 p2 p3 p4 sp a1 a2 e1 e2
  by_cases z1 : lo1 < 0 <;> by_cases z2 : 0 < hi1 <;>
    simp! only [k_product_stretch, k_product_stretch_b, q1, q2, a1, a2, p1, p2, p3, p4, sp, e1, e2, z1, z2, eE_n, eE_s]
end
end Ev
namespace Ev
local macro_rules
  | `(tactic| simp! only [$as,*]) => `(tactic| simp only [↓x_var, ↓x_C, ↓x_op, ↓x_fz, ↓x_rV, ↓x_B, ↓x_chain, ↓x_tru, ↓x_notT, ↓x_andT, ↓x_orT, ↓x_and, ↓x_or, ↓x_not, ↓x_neg, ↓x_if, ↓x_aNil, ↓x_aVal, ↓x_aSlot, ↓x_aTmp, ↓x_aR, ↓x_call, ↓x_callK, ↓x_dNil, ↓x_dCons, ↓x_tup, ↓x_lst, ↓x_itemN, ↓x_ownItem, ↓x_lenN, ↓x_blt, ↓x_isi, ↓x_list, ↓x_rgL1, ↓x_rgL2, ↓x_iSeq, ↓x_iZip, ↓x_range1, ↓x_range2, ↓x_addR, ↓x_slice, ↓x_partN, ↓x_partS, ↓x_comp, ↓x_skip, ↓x_stuck, ↓x_break, ↓x_cont, ↓x_seq, ↓x_sIf, ↓x_sExpr, ↓x_ret, ↓x_retN, ↓x_move, ↓x_setRv, ↓x_setRf, ↓x_set, ↓x_gN, ↓x_gsNil, ↓x_gsCons, ↓x_gTup, ↓x_gIx, ↓x_setAt, ↓x_asg, ↓x_par, ↓x_sm0, ↓x_smV, ↓x_smF, ↓x_app, ↓x_for, ↓x_for0, ↓x_for1, ↓x_comp0, ↓x_comp1, ↓x_fn, ↓x_iEnum, ↓x_range3, ↓x_comp2, ↓x_compN0, ↓x_compN1, q_addI, q_addT, q_addL, q_subI, q_ltI, q_leI, q_gtI, q_geI, q_isN, q_isNotN, q_eqI, q_neI, q_eqB, q_eqT0, q_eqT1, q_neT0, q_neT1, q_eqL0, q_eqL1, q_neL0, q_neL1, q_int, q_abs, q_min2, q_max2, q_at0, q_at1, q_at2, q_at3, q_ix0, q_ix1, q_ix2, q_sz, q_iteS, q_iteT, q_iteR, q_iteV, q_iteBB, q_iteII, q_iteAnd, q_iteOr, q_iteNot, q_iteCon, q_pa0, q_pa1, q_pa2, q_pa3, q_ow0, q_ow1, q_ow2, q_ow3, q_c0, q_c1, q_c2, q_c3, q_c4, q_c5, q_c6, q_c7, q_c8, q_c9, q_c10, q_c11, q_c12, q_all0, q_all1, q_all2, q_all3, q_inN2, q_inN0, q_02a, q_02b, List.getElem?_cons_zero, List.getElem?_cons_succ, List.set_cons_zero, List.set_cons_succ, wipeE, initE, outsOf, toAv, slotsOf, putOuts, natNodup, List.map_cons, List.map_nil, List.cons_append, List.nil_append, List.append_nil, List.replicate, List.length_cons, List.length_nil, isNone, isiD, seqD, gItem, truD, zipOf, zipD, pick, List.contains_nil, List.contains_cons, eq_self, if_true, if_false, Bool.false_eq_true, Bool.true_eq_false, Bool.not_true, Bool.not_false, reduceIte, decide_true, decide_false, Nat.reduceAdd, Nat.reduceSub, Nat.zero_add, Nat.add_zero, and_self, true_and, and_true, Bool.and_true, Bool.true_and, Bool.or_false, Bool.false_or, Bool.or_true, Bool.true_or, Bool.and_false, Bool.false_and, Bool.or_self, Bool.and_self, Nat.sub_self, Option.map_some, Option.map_none, Nat.reduceBEq, Bool.not_eq_true, beq_self_eq_true, Nat.reduceLeDiff, Nat.reduceLT, Nat.reduceEqDiff, List.filterMap_cons, List.filterMap_nil, $as,*])
local macro_rules
  | `(tactic| dsimp! only [$as,*]) => `(tactic| simp only [↓x_var, ↓x_C, ↓x_op, ↓x_fz, ↓x_rV, ↓x_B, ↓x_chain, ↓x_tru, ↓x_notT, ↓x_andT, ↓x_orT, ↓x_and, ↓x_or, ↓x_not, ↓x_neg, ↓x_if, ↓x_aNil, ↓x_aVal, ↓x_aSlot, ↓x_aTmp, ↓x_aR, ↓x_call, ↓x_callK, ↓x_dNil, ↓x_dCons, ↓x_tup, ↓x_lst, ↓x_itemN, ↓x_ownItem, ↓x_lenN, ↓x_blt, ↓x_isi, ↓x_list, ↓x_rgL1, ↓x_rgL2, ↓x_iSeq, ↓x_iZip, ↓x_range1, ↓x_range2, ↓x_addR, ↓x_slice, ↓x_partN, ↓x_partS, ↓x_comp, ↓x_skip, ↓x_stuck, ↓x_break, ↓x_cont, ↓x_seq, ↓x_sIf, ↓x_sExpr, ↓x_ret, ↓x_retN, ↓x_move, ↓x_setRv, ↓x_setRf, ↓x_set, ↓x_gN, ↓x_gsNil, ↓x_gsCons, ↓x_gTup, ↓x_gIx, ↓x_setAt, ↓x_asg, ↓x_par, ↓x_sm0, ↓x_smV, ↓x_smF, ↓x_app, ↓x_for, ↓x_for0, ↓x_for1, ↓x_comp0, ↓x_comp1, ↓x_fn, ↓x_iEnum, ↓x_range3, ↓x_comp2, ↓x_compN0, ↓x_compN1, q_addI, q_addT, q_addL, q_subI, q_ltI, q_leI, q_gtI, q_geI, q_isN, q_isNotN, q_eqI, q_neI, q_eqB, q_eqT0, q_eqT1, q_neT0, q_neT1, q_eqL0, q_eqL1, q_neL0, q_neL1, q_int, q_abs, q_min2, q_max2, q_at0, q_at1, q_at2, q_at3, q_ix0, q_ix1, q_ix2, q_sz, q_iteS, q_iteT, q_iteR, q_iteV, q_iteBB, q_iteII, q_iteAnd, q_iteOr, q_iteNot, q_iteCon, q_pa0, q_pa1, q_pa2, q_pa3, q_ow0, q_ow1, q_ow2, q_ow3, q_c0, q_c1, q_c2, q_c3, q_c4, q_c5, q_c6, q_c7, q_c8, q_c9, q_c10, q_c11, q_c12, q_all0, q_all1, q_all2, q_all3, q_inN2, q_inN0, q_02a, q_02b, List.getElem?_cons_zero, List.getElem?_cons_succ, List.set_cons_zero, List.set_cons_succ, wipeE, initE, outsOf, toAv, slotsOf, putOuts, natNodup, List.map_cons, List.map_nil, List.cons_append, List.nil_append, List.append_nil, List.replicate, List.length_cons, List.length_nil, isNone, isiD, seqD, truD, zipOf, zipD, pick, List.contains_nil, List.contains_cons, eq_self, if_true, if_false, Bool.false_eq_true, Bool.true_eq_false, Bool.not_true, Bool.not_false, reduceIte, decide_true, decide_false, Nat.reduceAdd, Nat.reduceSub, Nat.zero_add, Nat.add_zero, and_self, true_and, and_true, Bool.and_true, Bool.true_and, Bool.or_false, Bool.false_or, Bool.or_true, Bool.true_or, Bool.and_false, Bool.false_and, Bool.or_self, Bool.and_self, Nat.sub_self, Option.map_some, Option.map_none, Nat.reduceBEq, Bool.not_eq_true, beq_self_eq_true, Nat.reduceLeDiff, Nat.reduceLT, Nat.reduceEqDiff, List.filterMap_cons, List.filterMap_nil, $as,*])
open PySem PySem.Spec PyProof.Rows L2
theorem sgn_zero_iff {i : Int} : sgn i = 0 ↔ i = 0 := by
  rcases Int.lt_trichotomy i 0 with h | h | h
  · rw [sgn_neg h]; omega
  · subst h; simp [sgn_zero]
  · rw [sgn_pos h]; omega
theorem mul_zero_iff {x y : Int} : sgn x * sgn y = 0 ↔ x * y = 0 := by
  rw [Int.mul_eq_zero, Int.mul_eq_zero, sgn_zero_iff, sgn_zero_iff]
section
variable {f g h w : Fn}
theorem k__law_plus_ok (a b : SS) : k__law_plus [.val (eS a), .val (eS b)] = some (.val (eS (sumS a b)), []) := by
  rcases a with _ | ⟨_ | l, _ | r⟩ <;> rcases b with _ | ⟨_ | l2, _ | r2⟩ <;> simp! only [k__law_plus, k__law_plus_b, eS_n, eS_s, eE_n, eE_s, sumS, plusE]
theorem k__law_side_ok (x : EE) {i : Int} (hi : i = 0 ∨ i = 1) : k__law_side [.val (eE x), .val (.int i)] = some (.val (.int (sideE (2 * i - 1) x)), []) := by
  have m : mulOk 2 i = true := szmul (by decide) (by omega)
  rcases x with _ | x
  · simp! only [k__law_side, k__law_side_b, eE_n, q_mulI m, sideE]
  · by_cases c1 : 0 < x
    · have c2 : ¬ x < 0 := by omega
      simp! only [k__law_side, k__law_side_b, eE_s, sideE, sgn_pos c1, c1, c2]
      rfl
    · by_cases c2 : x < 0
      · simp! only [k__law_side, k__law_side_b, eE_s, sideE, sgn_neg c2, c1, c2]
        rfl
      · have c3 : x = 0 := by omega
        subst c3
        simp! only [k__law_side, k__law_side_b, eE_s, sideE, sgn_zero, c1]
        rfl
def fin1 (c : Cn) : List Int := if c.1 = 0 then [c.2] else []
/-- one corner -/
theorem times_l1 (h1 : ∀ x (i : Int), i = 0 ∨ i = 1 → f [.val (eE x), .val (.int i)] = some (.val (.int (sideE (2 * i - 1) x)), [])) {a b : SS} {x y : EE} {i j : Int} (hi : i = 0 ∨ i = 1) (hj : j = 0 ∨ j = 1) (ha : gItem (eS a) (.int i) = some (eE x)) (hb : gItem (eS b) (.int j) = some (eE y))
    (hx : szE (2 ^ 200) x) (hy : szE (2 ^ 200) y) (lots : List Int) (lo hi' : Bool) (s3 s8 : Sl) (h8 : Fr s8) (hl : lots.length < 1000) :
    ∃ s8', Fr s8' ∧ k__law_times_l1 f [.val (eS a), .val (eS b), .val (.int i), s3, .own (lots.map PyData.int), .val (.bool lo), .val (.bool hi'), .val (.int j), s8] =
      some (.nx, [.val (eS a), .val (eS b), .val (.int i), s3, .own ((lots ++ fin1 (cornE (2 * i - 1) (2 * j - 1) x y)).map PyData.int), .val (.bool (lo || decide ((cornE (2 * i - 1) (2 * j - 1) x y).1 < 0))), .val (.bool (hi' || decide (0 < (cornE (2 * i - 1) (2 * j - 1) x y).1))), .val (.int j), s8']) := by
  have x1 := h1 x i hi
  have x2 := h1 y j hj
  have hl' : (lots.map PyData.int).length < 16777216 := by rw [List.length_map]; omega
  have hsx : -1 ≤ sideE (2 * i - 1) x ∧ sideE (2 * i - 1) x ≤ 1 := by
    rcases x with _ | x
    · show -1 ≤ 2 * i - 1 ∧ _; constructor; omega; show 2 * i - 1 ≤ 1; omega
    · exact sgn_sz x
  have hsy : -1 ≤ sideE (2 * j - 1) y ∧ sideE (2 * j - 1) y ≤ 1 := by
    rcases y with _ | y
    · show -1 ≤ 2 * j - 1 ∧ _; constructor; omega; show 2 * j - 1 ≤ 1; omega
    · exact sgn_sz y
  have ms : mulOk (sideE (2 * i - 1) x) (sideE (2 * j - 1) y) = true := szmul (by omega) (by omega)
  refine ⟨.val (.int (sideE (2 * i - 1) x * sideE (2 * j - 1) y)), rfl, ?_⟩
  by_cases c : sideE (2 * i - 1) x * sideE (2 * j - 1) y = 0
  · have e : fin1 (cornE (2 * i - 1) (2 * j - 1) x y) = [0] ∧ (cornE (2 * i - 1) (2 * j - 1) x y).1 = 0 := by
      rcases x with _ | x
      · exact ⟨if_pos c, c⟩
      · rcases y with _ | y
        · exact ⟨if_pos c, c⟩
        · have c' : x * y = 0 := mul_zero_iff.mp c
          simp only [cornE, fin1, c', if_true, and_self]
    rw [e.1, e.2]
    dsimp! only [k__law_times_l1, ha, hb, x1, x2, q_mulI ms, c, appAt, hl', List.map_append, show isPar s8 = false from h8]
    simp
  · rcases x with _ | x
    · have e : fin1 (cornE (2 * i - 1) (2 * j - 1) none y) = [] := if_neg c
      rw [e]
      rw [eE_n] at x1 ha
      dsimp! only [k__law_times_l1, ha, hb, x1, x2, q_mulI ms, c, eE_n, show isPar s8 = false from h8, cornE]
      cases lo <;> cases hi' <;> simp <;> (try constructor) <;> exact decide_eq_decide.mpr Iff.rfl
    · rcases y with _ | y
      · have e : fin1 (cornE (2 * i - 1) (2 * j - 1) (some x) none) = [] := if_neg c
        rw [e]
        rw [eE_s] at x1 ha
        rw [eE_n] at x2 hb
        dsimp! only [k__law_times_l1, ha, hb, x1, x2, q_mulI ms, c, eE_n, eE_s, show isPar s8 = false from h8, cornE]
        cases lo <;> cases hi' <;> simp <;> (try constructor) <;> exact decide_eq_decide.mpr Iff.rfl
      · have m := szmul hx hy
        have e : fin1 (cornE (2 * i - 1) (2 * j - 1) (some x) (some y)) = [x * y] := rfl
        rw [e]
        rw [eE_s] at x1 ha x2 hb
        dsimp! only [k__law_times_l1, ha, hb, x1, x2, q_mulI ms, c, eE_s, appAt, hl', q_mulI m, List.map_append, show isPar s8 = false from h8, cornE]
        simp
theorem fin4 (c1 c2 c3 c4 : Cn) : ((([] ++ fin1 c1) ++ fin1 c2) ++ fin1 c3) ++ fin1 c4 = finC [c1, c2, c3, c4] := by
  unfold finC fin1
  simp only [List.filter_cons, List.filter_nil, decide_eq_true_eq, List.nil_append]
  by_cases h1 : c1.1 = 0 <;> by_cases h2 : c2.1 = 0 <;> by_cases h3 : c3.1 = 0 <;> by_cases h4 : c4.1 = 0 <;> simp [h1, h2, h3, h4]
theorem any4 (p : Cn → Bool) (c1 c2 c3 c4 : Cn) : ((((false || p c1) || p c2) || p c3) || p c4) = [c1, c2, c3, c4].any p := by
  simp [Bool.or_assoc]
theorem minV_eq {ns : List Int} {p : Int} (h : minV ns = some p) : gMin [.list (ns.map PyData.int)] = some (.int p) := by
  cases ns with
  | nil => cases h
  | cons n ns =>
    cases h
    show (intsOf ((n :: ns).map PyData.int)).bind _ = _
    rw [intsOf_map]
    rfl
theorem maxV_eq {ns : List Int} {p : Int} (h : maxV ns = some p) : gMax [.list (ns.map PyData.int)] = some (.int p) := by
  cases ns with
  | nil => cases h
  | cons n ns =>
    cases h
    show (intsOf ((n :: ns).map PyData.int)).bind _ = _
    rw [intsOf_map]
    rfl
theorem k__law_times_ok (h1 : ∀ x (i : Int), i = 0 ∨ i = 1 → f [.val (eE x), .val (.int i)] = some (.val (.int (sideE (2 * i - 1) x)), [])) {a b : SS} (ha : szS (2 ^ 200) a) (hb : szS (2 ^ 200) b) :
    k__law_times f [.val (eS a), .val (eS b)] = some (.val (eS (prodS a b)), []) := by
  rcases a with _ | ⟨l, r⟩
  · rcases b with _ | ⟨l2, r2⟩ <;> simp! only [k__law_times, k__law_times_b, eS_n, eS_s, prodS]
  rcases b with _ | ⟨l2, r2⟩
  · simp! only [k__law_times, k__law_times_b, eS_n, eS_s, prodS]
  have i0 : ∀ x y : EE, gItem (eS (some (x, y))) (.int 0) = some (eE x) := fun x y => q_at0
  have i1 : ∀ x y : EE, gItem (eS (some (x, y))) (.int 1) = some (eE y) := fun x y => q_at1
  have ln : ∀ c : Cn, (fin1 c).length ≤ 1 := fun c => by unfold fin1; split <;> simp
  obtain ⟨s1, f1, t1⟩ := times_l1 h1 (a := some (l, r)) (b := some (l2, r2)) (i := 0) (j := 0) (.inl rfl) (.inl rfl) (i0 l r) (i0 l2 r2) ha.1 hb.1 [] false false .no .no rfl (by decide)
  obtain ⟨s2, f2, t2⟩ := times_l1 h1 (a := some (l, r)) (b := some (l2, r2)) (i := 0) (j := 1) (.inl rfl) (.inr rfl) (i0 l r) (i1 l2 r2) ha.1 hb.2 ([] ++ fin1 (cornE (-1) (-1) l l2)) (false || decide ((cornE (-1) (-1) l l2).1 < 0)) (false || decide (0 < (cornE (-1) (-1) l l2).1)) .no s1 f1 (by have := ln (cornE (-1) (-1) l l2); simp; omega)
  obtain ⟨s3, f3, t3⟩ := times_l1 h1 (a := some (l, r)) (b := some (l2, r2)) (i := 1) (j := 0) (.inr rfl) (.inl rfl) (i1 l r) (i0 l2 r2) ha.2 hb.1 (([] ++ fin1 (cornE (-1) (-1) l l2)) ++ fin1 (cornE (-1) 1 l r2)) ((false || decide ((cornE (-1) (-1) l l2).1 < 0)) || decide ((cornE (-1) 1 l r2).1 < 0)) ((false || decide (0 < (cornE (-1) (-1) l l2).1)) || decide (0 < (cornE (-1) 1 l r2).1)) .no s2 f2
    (by have := ln (cornE (-1) (-1) l l2); have := ln (cornE (-1) 1 l r2); simp; omega)
  obtain ⟨s4, f4, t4⟩ := times_l1 h1 (a := some (l, r)) (b := some (l2, r2)) (i := 1) (j := 1) (.inr rfl) (.inr rfl) (i1 l r) (i1 l2 r2) ha.2 hb.2 ((([] ++ fin1 (cornE (-1) (-1) l l2)) ++ fin1 (cornE (-1) 1 l r2)) ++ fin1 (cornE 1 (-1) r l2)) (((false || decide ((cornE (-1) (-1) l l2).1 < 0)) || decide ((cornE (-1) 1 l r2).1 < 0)) || decide ((cornE 1 (-1) r l2).1 < 0)) (((false || decide (0 < (cornE (-1) (-1) l l2).1)) || decide (0 < (cornE (-1) 1 l r2).1)) || decide (0 < (cornE 1 (-1) r l2).1)) .no s3 f3
    (by have := ln (cornE (-1) (-1) l l2); have := ln (cornE (-1) 1 l r2); have := ln (cornE 1 (-1) r l2); simp; omega)
  simp only [show (2 : Int) * 0 - 1 = -1 from rfl, show (2 : Int) * 1 - 1 = 1 from rfl] at t1 t2 t3 t4
  rw [fin4, any4 (fun c => decide (c.1 < 0)), any4 (fun c => decide (0 < c.1))] at t4
  have hp : eS (prodS (some (l, r)) (some (l2, r2))) = .tuple [eE (loC (corners l r l2 r2)), eE (hiC (corners l r l2 r2))] := rfl
  rw [hp]
  unfold loC hiC
  change _ = some (_, _) at t4
  have hc : [cornE (-1) (-1) l l2, cornE (-1) 1 l r2, cornE 1 (-1) r l2, cornE 1 1 r r2] = corners l r l2 r2 := rfl
  rw [hc] at t4
  generalize hda : eS (some (l, r)) = da at *
  generalize hdb : eS (some (l2, r2)) = db at *
  have q1 : gEq da (.tuple []) = some (.bool false) := by rw [← hda]; exact q_eqT1
  have q2 : gEq db (.tuple []) = some (.bool false) := by rw [← hdb]; exact q_eqT1
  generalize ((corners l r l2 r2).any fun c => decide (c.1 < 0)) = lo at *
  generalize ((corners l r l2 r2).any fun c => decide (0 < c.1)) = hi at *
  generalize finC (corners l r l2 r2) = L at *
  generalize ([] ++ fin1 (cornE (-1) (-1) l l2) ++ fin1 (cornE (-1) 1 l r2) ++ fin1 (cornE 1 (-1) r l2)) = L3 at *
  generalize ([] ++ fin1 (cornE (-1) (-1) l l2) ++ fin1 (cornE (-1) 1 l r2)) = L2 at *
  generalize ([] ++ fin1 (cornE (-1) (-1) l l2)) = L1 at *
  generalize (((false || decide ((cornE (-1) (-1) l l2).1 < 0)) || decide ((cornE (-1) 1 l r2).1 < 0)) || decide ((cornE 1 (-1) r l2).1 < 0)) = m3 at *
  generalize (((false || decide (0 < (cornE (-1) (-1) l l2).1)) || decide (0 < (cornE (-1) 1 l r2).1)) || decide (0 < (cornE 1 (-1) r l2).1)) = n3 at *
  generalize ((false || decide ((cornE (-1) (-1) l l2).1 < 0)) || decide ((cornE (-1) 1 l r2).1 < 0)) = m2 at *
  generalize ((false || decide (0 < (cornE (-1) (-1) l l2).1)) || decide (0 < (cornE (-1) 1 l r2).1)) = n2 at *
  generalize (false || decide ((cornE (-1) (-1) l l2).1 < 0)) = m1 at *
  generalize (false || decide (0 < (cornE (-1) (-1) l l2).1)) = n1 at *
  refine fn_rt (b := k__law_times_b f) (e := [.val da, .val db, .val (.int 1), .val (eE (if lo = true then none else minV L)), .val (.list (L.map PyData.int)), .val (.bool lo), .val (.bool hi), .val (.int 1), s4]) ?_ rfl
  unfold k__law_times_b
  refine seq_nx (e1 := [.val da, .val db, .no, .no, .no, .no, .no, .no, .no]) (by simp! only [q1, q2]) (seq_nx (e1 := [.val da, .val db, .no, .no, .own [], .val (.bool false), .val (.bool false), .no, .no]) (by simp! only [x_C])
    (seq_nx (e1 := [.val da, .val db, .val (.int 1), .no, .own (L.map PyData.int), .val (.bool lo), .val (.bool hi), .val (.int 1), s4]) ?_ (seq_nx (e1 := [.val da, .val db, .val (.int 1), .val (eE (if lo = true then none else minV L)), .val (.list (L.map PyData.int)), .val (.bool lo), .val (.bool hi), .val (.int 1), s4]) ?_ ?_)))
  · simp only [List.map_nil] at t1
    simp! only [k__law_times_l2, t1, t2, t3, t4]
  · cases lo with
    | true => simp! only [ints_ne, eE_n]
    | false =>
      cases hL : minV L with
      | none =>
        have : L = [] := by cases L; rfl; cases hL
        subst this
        simp! only [eE_n]
      | some p =>
        have hne : L.isEmpty = false := by cases L; cases hL; rfl
        simp! only [ints_ne, hne, minV_eq hL, eE_s]
  · cases hi with
    | true => simp! only [ints_ne, eE_n]
    | false =>
      cases hL : maxV L with
      | none =>
        have : L = [] := by cases L; rfl; cases hL
        subst this
        simp! only [eE_n]
      | some p =>
        have hne : L.isEmpty = false := by cases L; cases hL; rfl
        simp! only [ints_ne, hne, maxV_eq hL, eE_s]
end
end Ev
namespace Ev
open PySem PySem.Spec PyProof.Rows L2
/-! ## laws of sums -/
theorem ok_sum {a b : SS} (ha : okS a = true) (hb : okS b = true) : okS (sumS a b) = true := by
  rcases a with _ | ⟨_ | l, _ | r⟩ <;> rcases b with _ | ⟨_ | l2, _ | r2⟩ <;> try rfl
  have h1 := of_decide_eq_true (show decide (l ≤ r) = true from ha)
  have h2 := of_decide_eq_true (show decide (l2 ≤ r2) = true from hb)
  exact (show decide (l + l2 ≤ r + r2) = true from decide_eq_true (by omega))
theorem has_sum {a b : SS} {x y : Int} (ha : hasS a x = true) (hb : hasS b y = true) : hasS (sumS a b) (x + y) = true := by
  rcases a with _ | ⟨_ | l, _ | r⟩ <;> rcases b with _ | ⟨_ | l2, _ | r2⟩ <;> simp [hasS, sumS, leE, plusE] at ha hb ⊢ <;> omega
/-- a number is a sum just if the first stretch meets the number less the second -/
theorem sum_iff {a b : SS} (ha : okS a = true) (hb : okS b = true) (k : Int) : (!decide (meetS a (sumS (some (some k, some k)) (backS b)) = none)) = hasS (sumS a b) k := by
  rcases a with _ | ⟨l, r⟩
  · rfl
  rcases b with _ | ⟨l2, r2⟩
  · rfl
  have e : sumS (some (some k, some k)) (backS (some (l2, r2))) = some (plusE (some k) (negE r2), plusE (some k) (negE l2)) := rfl
  rw [e]
  have e2 : meetS (some (l, r)) (some (plusE (some k) (negE r2), plusE (some k) (negE l2))) = if leE (lowM l (plusE (some k) (negE r2))) (highM r (plusE (some k) (negE l2))) = true then some (lowM l (plusE (some k) (negE r2)), highM r (plusE (some k) (negE l2))) else none := rfl
  rw [e2]
  have e3 : leE (lowM l (plusE (some k) (negE r2))) (highM r (plusE (some k) (negE l2))) = hasS (sumS (some (l, r)) (some (l2, r2))) k := by
    rcases l with _ | l <;> rcases r with _ | r <;> rcases l2 with _ | l2 <;> rcases r2 with _ | r2 <;> simp [okS, leE] at ha hb <;> simp [hasS, sumS, leE, plusE, negE, lowM, highM] <;> (try rw [Bool.eq_iff_iff]) <;> (try simp) <;> omega
  rw [e3]
  cases hasS (sumS (some (l, r)) (some (l2, r2))) k <;> simp
/-! ## laws of products -/
theorem one_low {l r : EE} {x c : Int} (hx : hasS (some (l, r)) x = true) : (sideE (-1) l * sgn c < 0 ∧ l = none) ∨ (sideE 1 r * sgn c < 0 ∧ r = none) ∨ (∃ e, l = some e ∧ e * c ≤ x * c) ∨ (∃ e, r = some e ∧ e * c ≤ x * c) ∨ (c = 0 ∧ l = none ∧ r = none) := by
  rcases Int.lt_trichotomy c 0 with h | h | h
  · rcases r with _ | r
    · right; left
      rw [sgn_neg h]
      exact ⟨by show (1 : Int) * -1 < 0; decide, rfl⟩
    · right; right; right; left
      refine ⟨r, rfl, Int.mul_le_mul_of_nonpos_right ?_ (by omega)⟩
      rcases l with _ | l <;> simp [hasS, leE] at hx <;> omega
  · subst h
    rcases l with _ | l
    · rcases r with _ | r
      · exact .inr (.inr (.inr (.inr ⟨rfl, rfl, rfl⟩)))
      · exact .inr (.inr (.inr (.inl ⟨r, rfl, by simp⟩)))
    · exact .inr (.inr (.inl ⟨l, rfl, by simp⟩))
  · rcases l with _ | l
    · left
      rw [sgn_pos h]
      exact ⟨by show (-1 : Int) * 1 < 0; decide, rfl⟩
    · right; right; left
      refine ⟨l, rfl, Int.mul_le_mul_of_nonneg_right ?_ (by omega)⟩
      rcases r with _ | r <;> simp [hasS, leE] at hx <;> omega
/-- a corner that is far below, or one that is at most v -/
def Low (cs : List Cn) (v : Int) : Prop := (∃ c ∈ cs, c.1 < 0) ∨ ∃ w, (0, w) ∈ cs ∧ w ≤ v
theorem two_low {s : Int} (hs : s = 1 ∨ s = -1) {e : EE} {l2 r2 : EE} {y v : Int} (hy : hasS (some (l2, r2)) y = true) (he : (∃ i, e = some i ∧ i * y ≤ v) ∨ (e = none ∧ (s * sgn y < 0 ∨ (y = 0 ∧ 0 ≤ v)))) : Low [cornE s (-1) e l2, cornE s 1 e r2] v := by
  rcases he with ⟨i, rfl, hv⟩ | ⟨rfl, hv⟩
  · rcases one_low (c := i) hy with ⟨h1, rfl⟩ | ⟨h1, rfl⟩ | ⟨k, rfl, h1⟩ | ⟨k, rfl, h1⟩ | ⟨rfl, rfl, rfl⟩
    · left
      refine ⟨_, List.mem_cons_self .., ?_⟩
      show sgn i * (-1) < 0
      have h1 : (-1 : Int) * sgn i < 0 := h1
      rw [Int.mul_comm]; exact h1
    · left
      refine ⟨_, List.mem_cons_of_mem _ (List.mem_cons_self ..), ?_⟩
      show sgn i * 1 < 0
      have h1 : (1 : Int) * sgn i < 0 := h1
      rw [Int.mul_comm]; exact h1
    · right
      refine ⟨i * k, List.mem_cons_self .., ?_⟩
      rw [Int.mul_comm k, Int.mul_comm y] at h1
      omega
    · right
      refine ⟨i * k, List.mem_cons_of_mem _ (List.mem_cons_self ..), ?_⟩
      rw [Int.mul_comm k, Int.mul_comm y] at h1
      omega
    · right
      refine ⟨0, ?_, by simpa using hv⟩
      have : cornE s (-1) (some 0) none = (0, 0) := by show (sgn 0 * (-1), (0 : Int)) = (0, 0); rfl
      rw [this]
      exact List.mem_cons_self ..
  · have h1 : (∃ k, l2 = some k ∧ k ≤ y) ∨ l2 = none := by
      rcases l2 with _ | k
      · exact .inr rfl
      · left; refine ⟨k, rfl, ?_⟩
        rcases r2 with _ | r <;> simp [hasS, leE] at hy <;> omega
    have h2 : (∃ k, r2 = some k ∧ y ≤ k) ∨ r2 = none := by
      rcases r2 with _ | k
      · exact .inr rfl
      · left; refine ⟨k, rfl, ?_⟩
        rcases l2 with _ | r <;> simp [hasS, leE] at hy <;> omega
    have lowc : s = 1 → (∃ k, l2 = some k ∧ k < 0) ∨ l2 = none → Low [cornE s (-1) none l2, cornE s 1 none r2] v := fun hs1 h => by
      left
      refine ⟨_, List.mem_cons_self .., ?_⟩
      subst hs1
      rcases h with ⟨k, rfl, hk⟩ | rfl
      · show (1 : Int) * sgn k < 0; rw [sgn_neg hk]; decide
      · show (1 : Int) * (-1) < 0; decide
    have highc : s = -1 → (∃ k, r2 = some k ∧ 0 < k) ∨ r2 = none → Low [cornE s (-1) none l2, cornE s 1 none r2] v := fun hs1 h => by
      left
      refine ⟨_, List.mem_cons_of_mem _ (List.mem_cons_self ..), ?_⟩
      subst hs1
      rcases h with ⟨k, rfl, hk⟩ | rfl
      · show (-1 : Int) * sgn k < 0; rw [sgn_pos hk]; decide
      · show (-1 : Int) * 1 < 0; decide
    rcases hv with hv | ⟨rfl, hv⟩
    · rcases hs with hs | hs
      · have hy0 : y < 0 := by
          rcases Int.lt_trichotomy y 0 with h | h | h
          · exact h
          · subst h; rw [sgn_zero] at hv; omega
          · rw [sgn_pos h] at hv; omega
        refine lowc hs ?_
        rcases h1 with ⟨k, e, hk⟩ | e
        · exact .inl ⟨k, e, by omega⟩
        · exact .inr e
      · have hy0 : 0 < y := by
          rcases Int.lt_trichotomy y 0 with h | h | h
          · rw [sgn_neg h] at hv; omega
          · subst h; rw [sgn_zero] at hv; omega
          · exact h
        refine highc hs ?_
        rcases h2 with ⟨k, e, hk⟩ | e
        · exact .inl ⟨k, e, by omega⟩
        · exact .inr e
    · rcases hs with hs | hs
      · rcases h1 with ⟨k, e, hk⟩ | e
        · by_cases c : k < 0
          · exact lowc hs (.inl ⟨k, e, c⟩)
          · have : k = 0 := by omega
            subst this e
            right
            refine ⟨0, ?_, hv⟩
            have : cornE s (-1) none (some 0) = (0, 0) := by show (s * sgn 0, (0 : Int)) = (0, 0); rw [sgn_zero, Int.mul_zero]
            rw [this]
            exact List.mem_cons_self ..
        · exact lowc hs (.inr e)
      · rcases h2 with ⟨k, e, hk⟩ | e
        · by_cases c : 0 < k
          · exact highc hs (.inl ⟨k, e, c⟩)
          · have : k = 0 := by omega
            subst this e
            right
            refine ⟨0, ?_, hv⟩
            have : cornE s 1 none (some 0) = (0, 0) := by show (s * sgn 0, (0 : Int)) = (0, 0); rw [sgn_zero, Int.mul_zero]
            rw [this]
            exact List.mem_cons_of_mem _ (List.mem_cons_self ..)
        · exact highc hs (.inr e)
theorem Low.mono {cs ds : List Cn} {v : Int} (h : Low cs v) (m : ∀ c ∈ cs, c ∈ ds) : Low ds v := by
  rcases h with ⟨c, hc, h⟩ | ⟨w, hw, h⟩
  · exact .inl ⟨c, m _ hc, h⟩
  · exact .inr ⟨w, m _ hw, h⟩
theorem prod_low {l r l2 r2 : EE} {x y : Int} (hx : hasS (some (l, r)) x = true) (hy : hasS (some (l2, r2)) y = true) : Low (corners l r l2 r2) (x * y) := by
  have m1 : ∀ c ∈ [cornE (-1) (-1) l l2, cornE (-1) 1 l r2], c ∈ corners l r l2 r2 := fun c hc => by
    simp only [corners, List.mem_cons, List.not_mem_nil, or_false] at hc ⊢
    rcases hc with rfl | rfl
    · exact .inl rfl
    · exact .inr (.inl rfl)
  have m2 : ∀ c ∈ [cornE 1 (-1) r l2, cornE 1 1 r r2], c ∈ corners l r l2 r2 := fun c hc => by
    simp only [corners, List.mem_cons, List.not_mem_nil, or_false] at hc ⊢
    rcases hc with rfl | rfl
    · exact .inr (.inr (.inl rfl))
    · exact .inr (.inr (.inr rfl))
  rcases one_low (c := y) hx with ⟨h1, rfl⟩ | ⟨h1, rfl⟩ | ⟨k, rfl, h1⟩ | ⟨k, rfl, h1⟩ | ⟨rfl, rfl, rfl⟩
  · exact (two_low (s := -1) (.inr rfl) (e := none) (v := x * y) hy (.inr ⟨rfl, .inl h1⟩)).mono m1
  · exact (two_low (s := 1) (.inl rfl) (e := none) (v := x * y) hy (.inr ⟨rfl, .inl h1⟩)).mono m2
  · exact (two_low (s := -1) (.inr rfl) (e := some k) (v := x * y) hy (.inl ⟨k, rfl, h1⟩)).mono m1
  · exact (two_low (s := 1) (.inl rfl) (e := some k) (v := x * y) hy (.inl ⟨k, rfl, h1⟩)).mono m2
  · exact (two_low (s := -1) (.inr rfl) (e := none) (v := x * 0) hy (.inr ⟨rfl, .inr ⟨rfl, by simp⟩⟩)).mono m1
def negC (c : Cn) : Cn := (-c.1, -c.2)
theorem sgn_negI (i : Int) : sgn (-i) = -sgn i := by
  rcases Int.lt_trichotomy i 0 with h | h | h
  · rw [sgn_neg h, sgn_pos (by omega)]; rfl
  · subst h; rfl
  · rw [sgn_pos h, sgn_neg (by omega)]
theorem corn_neg (s t : Int) (x y : EE) : cornE (-s) t (negE x) y = negC (cornE s t x y) := by
  rcases x with _ | x <;> rcases y with _ | y
  · show ((-s) * t, (0 : Int)) = (-(s * t), -0); rw [Int.neg_mul]; rfl
  · show ((-s) * sgn y, (0 : Int)) = (-(s * sgn y), -0); rw [Int.neg_mul]; rfl
  · show (sgn (-x) * t, (0 : Int)) = (-(sgn x * t), -0); rw [sgn_negI, Int.neg_mul]; rfl
  · show ((0 : Int), (-x) * y) = (-0, -(x * y)); rw [Int.neg_mul]; rfl
def High (cs : List Cn) (v : Int) : Prop := (∃ c ∈ cs, 0 < c.1) ∨ ∃ w, (0, w) ∈ cs ∧ v ≤ w
theorem prod_high {l r l2 r2 : EE} {x y : Int} (hx : hasS (some (l, r)) x = true) (hy : hasS (some (l2, r2)) y = true) : High (corners l r l2 r2) (x * y) := by
  have hb : hasS (some (negE r, negE l)) (-x) = true := by
    have : hasS (backS (some (l, r))) (-x) = true := by rw [has_back, Int.neg_neg]; exact hx
    exact this
  have hm : ∀ c, c ∈ corners (negE r) (negE l) l2 r2 → ∃ d ∈ corners l r l2 r2, c = negC d := fun c hc => by
    simp only [corners, List.mem_cons, List.not_mem_nil, or_false] at hc
    have n1 := corn_neg 1 (-1) r l2
    have n2 := corn_neg 1 1 r r2
    have n3 := corn_neg (-1) (-1) l l2
    have n4 := corn_neg (-1) 1 l r2
    rw [show (-(-1) : Int) = 1 from rfl] at n3 n4
    rcases hc with rfl | rfl | rfl | rfl
    · exact ⟨cornE 1 (-1) r l2, by simp [corners], n1⟩
    · exact ⟨cornE 1 1 r r2, by simp [corners], n2⟩
    · exact ⟨cornE (-1) (-1) l l2, by simp [corners], n3⟩
    · exact ⟨cornE (-1) 1 l r2, by simp [corners], n4⟩
  rcases prod_low hb hy with ⟨c, hc, h⟩ | ⟨w, hw, h⟩
  · obtain ⟨d, hd, rfl⟩ := hm c hc
    left
    have h : -d.1 < 0 := h
    exact ⟨d, hd, by omega⟩
  · obtain ⟨d, hd, e⟩ := hm _ hw
    right
    have e1 : (0 : Int) = -d.1 := congrArg Prod.fst e
    have e2 : w = -d.2 := congrArg Prod.snd e
    have e3 : d = (0, d.2) := Prod.ext (by omega) rfl
    rw [e3] at hd
    rw [Int.neg_mul] at h
    exact ⟨d.2, hd, by omega⟩
theorem minV_le {ns : List Int} {w : Int} (h : w ∈ ns) : ∃ p, minV ns = some p ∧ p ∈ ns ∧ p ≤ w := by
  cases ns with
  | nil => cases h
  | cons n ns =>
    obtain ⟨a1, a2, a3⟩ := foldl_min ns n
    refine ⟨ns.foldl min n, rfl, ?_, ?_⟩
    · rcases a1 with e | e; (rw [e]; exact List.mem_cons_self ..); exact List.mem_cons_of_mem _ e
    · rcases List.mem_cons.mp h with rfl | e; exact a2; exact a3 w e
theorem maxV_ge {ns : List Int} {w : Int} (h : w ∈ ns) : ∃ p, maxV ns = some p ∧ p ∈ ns ∧ w ≤ p := by
  cases ns with
  | nil => cases h
  | cons n ns =>
    obtain ⟨a1, a2, a3⟩ := foldl_max ns n
    refine ⟨ns.foldl max n, rfl, ?_, ?_⟩
    · rcases a1 with e | e; (rw [e]; exact List.mem_cons_self ..); exact List.mem_cons_of_mem _ e
    · rcases List.mem_cons.mp h with rfl | e; exact a2; exact a3 w e
theorem loC_le {cs : List Cn} {v : Int} (h : Low cs v) : leE (loC cs) (some v) = true := by
  unfold loC
  split
  · rfl
  · rename_i hn
    rcases h with ⟨c, hc, h⟩ | ⟨w, hw, h⟩
    · exact absurd (List.any_eq_true.mpr ⟨c, hc, decide_eq_true h⟩) hn
    · obtain ⟨p, e, _, hp⟩ := minV_le (fin_mem.mpr hw)
      rw [e]
      exact decide_eq_true (by omega)
theorem hiC_ge {cs : List Cn} {v : Int} (h : High cs v) : leE (some v) (hiC cs) = true := by
  unfold hiC
  split
  · rfl
  · rename_i hn
    rcases h with ⟨c, hc, h⟩ | ⟨w, hw, h⟩
    · exact absurd (List.any_eq_true.mpr ⟨c, hc, decide_eq_true h⟩) hn
    · obtain ⟨p, e, _, hp⟩ := maxV_ge (fin_mem.mpr hw)
      rw [e]
      exact decide_eq_true (by omega)
theorem has_prod {a b : SS} {x y : Int} (ha : hasS a x = true) (hb : hasS b y = true) : hasS (prodS a b) (x * y) = true := by
  rcases a with _ | ⟨l, r⟩
  · cases ha
  rcases b with _ | ⟨l2, r2⟩
  · cases hb
  show (leE (loC (corners l r l2 r2)) (some (x * y)) && leE (some (x * y)) (hiC (corners l r l2 r2))) = true
  rw [loC_le (prod_low ha hb), hiC_ge (prod_high ha hb)]
  rfl
theorem some_has {l r : EE} (h : okS (some (l, r)) = true) : ∃ x, hasS (some (l, r)) x = true := by
  rcases l with _ | l
  · rcases r with _ | r
    · exact ⟨0, rfl⟩
    · exact ⟨r, by simp [hasS, leE]⟩
  · refine ⟨l, ?_⟩
    rcases r with _ | r
    · simp [hasS, leE]
    · have := of_decide_eq_true (show decide (l ≤ r) = true from h)
      simp [hasS, leE, this]
theorem ok_of_has {a : SS} {x : Int} (h : hasS a x = true) : okS a = true := by
  rcases a with _ | ⟨_ | l, _ | r⟩ <;> try rfl
  simp [hasS, leE] at h
  exact decide_eq_true (by omega)
theorem ok_prod {a b : SS} (ha : okS a = true) (hb : okS b = true) : okS (prodS a b) = true := by
  rcases a with _ | ⟨l, r⟩
  · rfl
  rcases b with _ | ⟨l2, r2⟩
  · rfl
  obtain ⟨x, hx⟩ := some_has ha
  obtain ⟨y, hy⟩ := some_has hb
  exact ok_of_has (has_prod hx hy)
/-- of short stretches: all products -/
def prodsL (a b : SS) : List Int := (allS a).flatMap fun x => (allS b).map fun y => x * y
theorem tried_prod {a b : SS} (h : prodsL a b ≠ []) : hullS (prodsL a b) = prodS a b := by
  have ha : allS a ≠ [] := fun z => h (by unfold prodsL; rw [z]; rfl)
  have hb : allS b ≠ [] := fun z => h (by
    unfold prodsL; rw [z]
    simp)
  obtain ⟨l, r, rfl, ma⟩ := allS_mem ha
  obtain ⟨l2, r2, rfl, mb⟩ := allS_mem hb
  have hlr : l ≤ r := by obtain ⟨z, hz⟩ := List.exists_mem_of_ne_nil _ ha; have := (ma z).mp hz; omega
  have hlr2 : l2 ≤ r2 := by obtain ⟨z, hz⟩ := List.exists_mem_of_ne_nil _ hb; have := (mb z).mp hz; omega
  have pm : ∀ x y, l ≤ x → x ≤ r → l2 ≤ y → y ≤ r2 → x * y ∈ prodsL (some (some l, some r)) (some (some l2, some r2)) := fun x y h1 h2 h3 h4 =>
    List.mem_flatMap.mpr ⟨x, (ma x).mpr ⟨h1, h2⟩, List.mem_map.mpr ⟨y, (mb y).mpr ⟨h3, h4⟩, rfl⟩⟩
  have hf : finC (corners (some l) (some r) (some l2) (some r2)) = [l * l2, l * r2, r * l2, r * r2] := rfl
  have hn1 : ((corners (some l) (some r) (some l2) (some r2)).any fun c => decide (c.1 < 0)) = false := rfl
  have hn2 : ((corners (some l) (some r) (some l2) (some r2)).any fun c => decide (0 < c.1)) = false := rfl
  obtain ⟨p, ep, mp, -⟩ := minV_le (ns := [l * l2, l * r2, r * l2, r * r2]) (List.mem_cons_self ..)
  obtain ⟨q, eq, mq, -⟩ := maxV_ge (ns := [l * l2, l * r2, r * l2, r * r2]) (List.mem_cons_self ..)
  have inn : ∀ v, v ∈ [l * l2, l * r2, r * l2, r * r2] → v ∈ prodsL (some (some l, some r)) (some (some l2, some r2)) := fun v hv => by
    simp only [List.mem_cons, List.not_mem_nil, or_false] at hv
    rcases hv with rfl | rfl | rfl | rfl
    · exact pm _ _ (by omega) hlr (by omega) hlr2
    · exact pm _ _ (by omega) hlr hlr2 (by omega)
    · exact pm _ _ hlr (by omega) (by omega) hlr2
    · exact pm _ _ hlr (by omega) hlr2 (by omega)
  have e : prodS (some (some l, some r)) (some (some l2, some r2)) = some (some p, some q) := by
    show some (loC _, hiC _) = _
    unfold loC hiC
    rw [hf, hn1, hn2, ep, eq]
    rfl
  rw [e]
  refine hull_of (inn p mp) (inn q mq) fun v hv => ?_
  obtain ⟨x, hx, hy⟩ := List.mem_flatMap.mp hv
  obtain ⟨y, hy2, rfl⟩ := List.mem_map.mp hy
  have h1 := (ma x).mp hx
  have h2 := (mb y).mp hy2
  have := has_prod (a := some (some l, some r)) (b := some (some l2, some r2)) (x := x) (y := y) (by simp [hasS, leE]; exact h1) (by simp [hasS, leE]; exact h2)
  rw [e] at this
  simpa [hasS, leE] using this
end Ev
namespace Ev
local macro_rules
  | `(tactic| simp! only [$as,*]) => `(tactic| simp only [↓x_var, ↓x_C, ↓x_op, ↓x_fz, ↓x_rV, ↓x_B, ↓x_chain, ↓x_tru, ↓x_notT, ↓x_andT, ↓x_orT, ↓x_and, ↓x_or, ↓x_not, ↓x_neg, ↓x_if, ↓x_aNil, ↓x_aVal, ↓x_aSlot, ↓x_aTmp, ↓x_aR, ↓x_call, ↓x_callK, ↓x_dNil, ↓x_dCons, ↓x_tup, ↓x_lst, ↓x_itemN, ↓x_ownItem, ↓x_lenN, ↓x_blt, ↓x_isi, ↓x_list, ↓x_rgL1, ↓x_rgL2, ↓x_iSeq, ↓x_iZip, ↓x_range1, ↓x_range2, ↓x_addR, ↓x_slice, ↓x_partN, ↓x_partS, ↓x_comp, ↓x_skip, ↓x_stuck, ↓x_break, ↓x_cont, ↓x_seq, ↓x_sIf, ↓x_sExpr, ↓x_ret, ↓x_retN, ↓x_move, ↓x_setRv, ↓x_setRf, ↓x_set, ↓x_gN, ↓x_gsNil, ↓x_gsCons, ↓x_gTup, ↓x_gIx, ↓x_setAt, ↓x_asg, ↓x_par, ↓x_sm0, ↓x_smV, ↓x_smF, ↓x_app, ↓x_for, ↓x_for0, ↓x_for1, ↓x_comp0, ↓x_comp1, ↓x_fn, ↓x_iEnum, ↓x_range3, ↓x_comp2, ↓x_compN0, ↓x_compN1, q_addI, q_addT, q_addL, q_subI, q_ltI, q_leI, q_gtI, q_geI, q_isN, q_isNotN, q_eqI, q_neI, q_eqB, q_eqT0, q_eqT1, q_neT0, q_neT1, q_eqL0, q_eqL1, q_neL0, q_neL1, q_int, q_abs, q_min2, q_max2, q_at0, q_at1, q_at2, q_at3, q_ix0, q_ix1, q_ix2, q_sz, q_iteS, q_iteT, q_iteR, q_iteV, q_iteBB, q_iteII, q_iteAnd, q_iteOr, q_iteNot, q_iteCon, q_pa0, q_pa1, q_pa2, q_pa3, q_ow0, q_ow1, q_ow2, q_ow3, q_c0, q_c1, q_c2, q_c3, q_c4, q_c5, q_c6, q_c7, q_c8, q_c9, q_c10, q_c11, q_c12, q_all0, q_all1, q_all2, q_all3, q_inN2, q_inN0, q_02a, q_02b, List.getElem?_cons_zero, List.getElem?_cons_succ, List.set_cons_zero, List.set_cons_succ, wipeE, initE, outsOf, toAv, slotsOf, putOuts, natNodup, List.map_cons, List.map_nil, List.cons_append, List.nil_append, List.append_nil, List.replicate, List.length_cons, List.length_nil, isNone, isiD, seqD, gItem, truD, zipOf, zipD, pick, List.contains_nil, List.contains_cons, eq_self, if_true, if_false, Bool.false_eq_true, Bool.true_eq_false, Bool.not_true, Bool.not_false, reduceIte, decide_true, decide_false, Nat.reduceAdd, Nat.reduceSub, Nat.zero_add, Nat.add_zero, and_self, true_and, and_true, Bool.and_true, Bool.true_and, Bool.or_false, Bool.false_or, Bool.or_true, Bool.true_or, Bool.and_false, Bool.false_and, Bool.or_self, Bool.and_self, Nat.sub_self, Option.map_some, Option.map_none, Nat.reduceBEq, Bool.not_eq_true, beq_self_eq_true, Nat.reduceLeDiff, Nat.reduceLT, Nat.reduceEqDiff, List.filterMap_cons, List.filterMap_nil, $as,*])
open PySem PySem.Spec PyProof.Rows L2
/-! ## k25: the checks -/
/-- a number drawn from a stretch, with a bound -/
def Innz (g : Fn) : Prop := ∀ (b : Nat) (ds : List D) (l r : EE), Src (b + 8) ds → okS (some (l, r)) = true → szS (2 ^ 112) (some (l, r)) → ∃ (i : Int) (ds' : List D), g [.own ds, .val (eS (some (l, r)))] = some (.val (.int i), [ds']) ∧ hasS (some (l, r)) i = true ∧ -(2 ^ 113) ≤ i ∧ i ≤ 2 ^ 113 ∧ Src b ds'
theorem k_inz_ok {t p gr nu : Fn} (T : Tk t) (P : Pk p) (G : Gp gr) (N : Nm 7 (2 ^ 110) nu) : Innz (k__law_in t p gr nu) := by
  intro b ds l r h ho hz
  by_cases c : l = none ∧ r = none
  · obtain ⟨rfl, rfl⟩ := c
    obtain ⟨v, d1, e1, z1, z2, s1⟩ := N (b + 1) ds h
    refine ⟨v, d1, ?_, rfl, by omega, by omega, s1.mono (by omega)⟩
    simp! only [k__law_in, k__law_in_b, eS_s, eE_n, e1]
  obtain ⟨v1, d1, e1, p1, q1, s1⟩ := T (b + 7) ds 400 h (by decide) (by decide)
  obtain ⟨v2, d2, e2, p2, q2, s2⟩ := G (b + 2) d1 s1
  obtain ⟨-, ⟨x, hx, d3, e3, s3⟩⟩ := P (b + 1) d2 [.int 0, .int 1, .int 2, .int v1, .int v2] s2 (by simp) (by simp)
  have hx2 : ∃ i : Int, x = .int i ∧ 0 ≤ i ∧ i ≤ 2 ^ 110 := by
    simp only [List.mem_cons, List.not_mem_nil, or_false] at hx
    rcases hx with rfl | rfl | rfl | rfl | rfl
    · exact ⟨0, rfl, by omega, by decide⟩
    · exact ⟨1, rfl, by omega, by decide⟩
    · exact ⟨2, rfl, by omega, by decide⟩
    · exact ⟨v1, rfl, p1, by omega⟩
    · exact ⟨v2, rfl, p2, q2⟩
  obtain ⟨i, rfl, hi, hi2⟩ := hx2
  rcases r with _ | r
  · rcases l with _ | l
    · exact absurd ⟨rfl, rfl⟩ c
    · have hl := hz.1
      simp only [szE] at hl
      refine ⟨l + i, d3, ?_, ?_, by omega, by omega, s3.mono (by omega)⟩
      · simp! only [k__law_in, k__law_in_b, eS_s, eE_n, eE_s, e1, e2, e3]
      · simp [hasS, leE]; omega
  have hr := hz.2
  simp only [szE] at hr
  rcases l with _ | l
  · refine ⟨r - i, d3, ?_, ?_, by omega, by omega, s3.mono (by omega)⟩
    · simp! only [k__law_in, k__law_in_b, eS_s, eE_n, eE_s, e1, e2, e3]
    · simp [hasS, leE]; omega
  have hl := hz.1
  simp only [szE] at hl
  have hlr : l ≤ r := of_decide_eq_true ho
  obtain ⟨v4, d4, e4, p4, q4, s4⟩ := T b d3 2 s3 (by decide) (by decide)
  have hp : 0 < r - l + 1 := by omega
  have m1 := Int.emod_nonneg i (b := r - l + 1) (by omega)
  have m2 := Int.emod_lt_of_pos i hp
  by_cases c4 : v4 = 0
  · refine ⟨l + i % (r - l + 1), d4, ?_, ?_, by omega, by omega, s4⟩
    · simp! only [k__law_in, k__law_in_b, eS_s, eE_n, eE_s, e1, e2, e3, e4, q_modI hp, c4]
    · simp [hasS, leE]; omega
  · refine ⟨r - i % (r - l + 1), d4, ?_, ?_, by omega, by omega, s4⟩
    · simp! only [k__law_in, k__law_in_b, eS_s, eE_n, eE_s, e1, e2, e3, e4, q_modI hp, c4]
    · simp [hasS, leE]; omega
abbrev SumF (f : Fn) : Prop := ∀ a b, okS a = true → okS b = true → f [.val (eS a), .val (eS b)] = some (.val (eS (sumS a b)), [])
abbrev ProdF (f : Fn) : Prop := ∀ a b, okS a = true → okS b = true → szS (2 ^ 200) a → szS (2 ^ 200) b → f [.val (eS a), .val (eS b)] = some (.val (eS (prodS a b)), [])
abbrev BackF (f : Fn) : Prop := ∀ a, okS a = true → f [.val (eS a)] = some (.val (eS (backS a)), [])
section
variable {f g h w : Fn}
theorem k_ssum_ok (h1 : ∀ a b, f [.val (eS a), .val (eS b)] = some (.val (eS (sumS a b)), [])) (h2 : ∀ a b, okS a = true → okS b = true → g [.val (eS a), .val (eS b)] = some (.val .none, [])) : SumF (k_stretch_sum f g) := fun a b ha hb => by
  simp! only [k_stretch_sum, k_stretch_sum_b, h1, h2 a b ha hb]
theorem k_sprod_ok (h1 : ∀ a b, szS (2 ^ 200) a → szS (2 ^ 200) b → f [.val (eS a), .val (eS b)] = some (.val (eS (prodS a b)), [])) (h2 : ∀ a b, okS a = true → okS b = true → g [.val (eS a), .val (eS b)] = some (.val .none, [])) : ProdF (k_stretch_product f g) := fun a b ha hb za zb => by
  simp! only [k_stretch_product, k_stretch_product_b, h1 a b za zb, h2 a b ha hb]
theorem k_sback_ok (h1 : ∀ a, f [.val (eS a)] = some (.val (eS (backS a)), [])) (h2 : ∀ a, okS a = true → g [.val (eS a)] = some (.val .none, [])) : BackF (k_stretch_back f g) := fun a ha => by
  simp! only [k_stretch_back, k_stretch_back_b, h1, h2 a ha]
theorem allS_sz {a : SS} (h : szS (2 ^ 200) a) {x : Int} (hx : x ∈ allS a) : -(2 ^ 200) ≤ x ∧ x ≤ 2 ^ 200 := by
  obtain ⟨l, r, rfl, m⟩ := allS_mem (List.ne_nil_of_mem hx)
  have := (m x).mp hx
  have h1 := h.1
  have h2 := h.2
  simp only [szE] at h1 h2
  omega
/-- all products, tried -/
theorem k25_tried_ok (h1 : ∀ a, f [.val (eS a)] = some (.fresh ((allS a).map PyData.int), [])) {a b : SS} (za : szS (2 ^ 200) a) (zb : szS (2 ^ 200) b) :
    k__law_tried f [.val (eS a), .val (eS b)] = some (.val (.list ((prodsL a b).map PyData.int)), []) ∨ k__law_tried f [.val (eS a), .val (eS b)] = some (.fresh ((prodsL a b).map PyData.int), []) := by
  have step : ∀ (xs : List Int), (∀ x ∈ xs, -(2 ^ 200) ≤ x ∧ x ≤ 2 ^ 200) → ∀ (acc : List Int) (o : Sl) (s3 : Sl), acc.length + 12 * xs.length ≤ 900 → (o = .own (acc.map PyData.int) ∨ o = .val (.list (acc.map PyData.int))) → Fr s3 →
      ∃ o' s3', forL (gN 3) (k__law_tried_l1 f) (xs.map PyData.int) [.val (eS a), .val (eS b), o, s3, .no] = some (.nx, [.val (eS a), .val (eS b), o', s3', .no]) ∧ (o' = .own ((acc ++ xs.flatMap fun x => (allS b).map fun y => x * y).map PyData.int) ∨ o' = .val (.list ((acc ++ xs.flatMap fun x => (allS b).map fun y => x * y).map PyData.int))) := by
    intro xs
    induction xs with
    | nil => intro _ acc o s3 _ ho _; exact ⟨o, s3, by rw [List.map_nil, x_for0], by simpa using ho⟩
    | cons x xs ih =>
      intro hx acc o s3 hl ho h3
      have hx0 := hx x (List.mem_cons_self ..)
      have lb := allS_len b
      rw [List.length_cons] at hl
      have hc : ∀ o : Sl, compL (gN 4) (fun env => some (true, env)) (eOp gMul (eVar 3) (eVar 4)) [4] ((allS b).map PyData.int) [] [.val (eS a), .val (eS b), o, .val (.int x), .no] = some (((allS b).map fun y => x * y).map PyData.int, [.val (eS a), .val (eS b), o, .val (.int x), .no]) := fun o => by
        rw [compL_all (h := fun d => match d with | .int y => .int (x * y) | d => d) _ [] (by rw [List.length_map, List.length_nil, q_sz]; omega) fun d hd => ?_]
        · rw [List.nil_append, List.map_map, List.map_map]; rfl
        · obtain ⟨y, hy, rfl⟩ := List.mem_map.mp hd
          have m := szmul hx0 (allS_sz zb hy)
          refine ⟨[.val (eS a), .val (eS b), o, .val (.int x), .val (.int y)], [.val (eS a), .val (eS b), o, .val (.int x), .val (.int y)], [.val (eS a), .val (eS b), o, .val (.int x), .val (.int y)], ?_, rfl, ?_, ?_⟩ <;> simp! only [q_mulI m]
      have hs : (acc.map PyData.int).length + (((allS b).map fun y => x * y).map PyData.int).length ≤ 16777216 := by simp only [List.length_map]; omega
      obtain ⟨o', s3', e1, e2⟩ := ih (fun y hy => hx y (List.mem_cons_of_mem _ hy)) (acc ++ (allS b).map fun y => x * y) (.val (.list ((acc ++ (allS b).map fun y => x * y).map PyData.int))) (.val (.int x)) (by rw [List.length_append, List.length_map]; omega) (.inr rfl) rfl
      refine ⟨o', s3', ?_, by rw [List.flatMap_cons, ← List.append_assoc]; exact e2⟩
      have hg : gN 3 (.int x) [.val (eS a), .val (eS b), o, s3, .no] = some [.val (eS a), .val (eS b), o, .val (.int x), .no] := by simp! only [show isPar s3 = false from h3]
      have hb : k__law_tried_l1 f [.val (eS a), .val (eS b), o, .val (.int x), .no] = some (.nx, [.val (eS a), .val (eS b), .val (.list ((acc ++ (allS b).map fun y => x * y).map PyData.int)), .val (.int x), .no]) := by
        rcases ho with rfl | rfl
        · simp! only [k__law_tried_l1, h1, hc, hs, List.map_append]
        · simp! only [k__law_tried_l1, h1, hc, hs, List.map_append]
      rw [List.map_cons, x_for1, hg]
      dsimp only
      rw [hb]
      exact e1
  have la := allS_len a
  obtain ⟨o', s3', e1, e2⟩ := step (allS a) (fun x hx => allS_sz za hx) [] (.own []) .no (by rw [List.length_nil]; omega) (.inl rfl) rfl
  rw [List.nil_append] at e2
  change o' = .own ((prodsL a b).map PyData.int) ∨ o' = .val (.list ((prodsL a b).map PyData.int)) at e2
  rcases e2 with rfl | rfl
  · right
    simp! only [k__law_tried, k__law_tried_b, h1, e1]
  · left
    simp! only [k__law_tried, k__law_tried_b, h1, e1]
theorem ints_eq {ns : List Int} : gEq (.list (ns.map PyData.int)) (.list []) = some (.bool ns.isEmpty) := by
  cases ns with
  | nil => exact q_eqL0
  | cons n ns => exact q_eqL1
theorem k25_two_ok {ba su pr sa tu hu pl ti tr : Fn} (h1 : BackF ba) (h2 : SumF su) (h3 : ProdF pr) (hs : SameOk 2 sa) (l1 : ∀ a, tu [.val (eS a)] = some (.val (eS (backS a)), [])) (l2 : ∀ ns : List Int, hu [.val (.list (ns.map PyData.int))] = some (.val (eS (hullS ns)), []))
    (l3 : ∀ a b, pl [.val (eS a), .val (eS b)] = some (.val (eS (sumS a b)), [])) (l4 : ∀ a b, szS (2 ^ 200) a → szS (2 ^ 200) b → ti [.val (eS a), .val (eS b)] = some (.val (eS (prodS a b)), []))
    (l5 : ∀ a b, szS (2 ^ 200) a → szS (2 ^ 200) b → tr [.val (eS a), .val (eS b)] = some (.val (.list ((prodsL a b).map PyData.int)), []) ∨ tr [.val (eS a), .val (eS b)] = some (.fresh ((prodsL a b).map PyData.int), [])) {a b : SS} (ha : okS a = true) (hb : okS b = true) (za : szS (2 ^ 200) a) (zb : szS (2 ^ 200) b) :
    k__law_two_right_v2 ba su pr sa tu hu pl ti tr [.val (eS a), .val (eS b)] = some (.val (.bool true), []) := by
  have s1 := hs (.tuple [eS (sumS a b), eS (prodS a b), eS (backS a)]) (gd_tup 1 _ (by simp) (all_cons (gd_eS 0 _) (all_cons (gd_eS 0 _) (all_cons (gd_eS 0 _) all_nil))))
  have s2 := hs (eS (prodS a b)) (gd_eS 1 _)
  have hul := l2 (prodsL a b)
  have he := ints_eq (ns := prodsL a b)
  have ht : (prodsL a b).isEmpty = false → hullS (prodsL a b) = prodS a b := fun hz => tried_prod (by intro z; rw [z] at hz; cases hz)
  rcases l5 a b za zb with l5 | l5
  · cases c : (prodsL a b).isEmpty with
    | true => simp! only [k__law_two_right_v2, k__law_two_right_v2_b, h1 a ha, h2 a b ha hb, h3 a b ha hb za zb, l1, l3, l4 a b za zb, l5, s1, he, c]
    | false =>
      rw [ht c] at hul
      simp! only [k__law_two_right_v2, k__law_two_right_v2_b, h1 a ha, h2 a b ha hb, h3 a b ha hb za zb, l1, l3, l4 a b za zb, l5, s1, s2, he, c, hul]
  · cases c : (prodsL a b).isEmpty with
    | true => simp! only [k__law_two_right_v2, k__law_two_right_v2_b, h1 a ha, h2 a b ha hb, h3 a b ha hb za zb, l1, l3, l4 a b za zb, l5, s1, he, c]
    | false =>
      rw [ht c] at hul
      simp! only [k__law_two_right_v2, k__law_two_right_v2_b, h1 a ha, h2 a b ha hb, h3 a b ha hb za zb, l1, l3, l4 a b za zb, l5, s1, s2, he, c, hul]
theorem q_mulT4 {x : D} : gMul (.tuple [x]) (.int 4) = some (.tuple [x, x, x, x]) := by
  show (if [x] ≠ [] ∧ (2 : Int) ≤ 4 ∧ (4 : Int) ≤ 1000 ∧ [x].length ≤ 1000 then some (PyData.tuple (List.replicate (4 : Int).toNat [x]).flatten) else none) = _
  rw [if_pos ⟨by simp, by decide, by decide, by simp⟩]
  rfl
theorem k25_held_ok {ho ba su pr sa : Fn} (h0 : ∀ a k, okS a = true → ho [.val (eS a), .val (.int k)] = some (.val (.bool (hasS a k)), [])) (h1 : BackF ba) (h2 : SumF su) (h3 : ProdF pr) (hs : SameOk 2 sa) {a b : SS} {x y : Int} (ha : okS a = true) (hb : okS b = true) (za : szS (2 ^ 200) a) (zb : szS (2 ^ 200) b)
    (hx : hasS a x = true) (hy : hasS b y = true) (zx : -(2 ^ 113) ≤ x ∧ x ≤ 2 ^ 113) (zy : -(2 ^ 113) ≤ y ∧ y ≤ 2 ^ 113) : k__law_held_right ho ba su pr sa [.val (eS a), .val (eS b), .val (.int x), .val (.int y)] = some (.val (.bool true), []) := by
  have s1 := hs (.tuple [.bool true, .bool true, .bool true, .bool true]) (gd_tup 1 _ (by simp) (all_cons (gd_bool _ _) (all_cons (gd_bool _ _) (all_cons (gd_bool _ _) (all_cons (gd_bool _ _) all_nil)))))
  have m1 : mulOk x y = true := szmul (by omega) (by omega)
  have m2 : mulOk y x = true := szmul (by omega) (by omega)
  have hb2 : hasS (backS a) (0 - x) = true := by rw [has_back, show -(0 - x) = x by omega]; exact hx
  simp! only [k__law_held_right, k__law_held_right_b, h1 a ha, h2 a b ha hb, h3 a b ha hb za zb, h3 b a hb ha zb za, h0 _ _ (ok_sum ha hb), h0 _ _ (ok_prod ha hb), h0 _ _ (ok_prod hb ha), h0 _ _ (ok_back ha), has_sum hx hy, has_prod hx hy, has_prod hy hx, hb2, q_mulI m1, q_mulI m2, q_mulT4, s1]
theorem q_neS0 (a : SS) : gNe (eS a) (.tuple []) = some (.bool (!decide (a = none))) := q_neS a none
theorem k25_sums_ok {ho me ba su sa ha_ pl : Fn} (h0 : ∀ a k, okS a = true → ho [.val (eS a), .val (.int k)] = some (.val (.bool (hasS a k)), [])) (hm : ∀ a b, okS a = true → okS b = true → me [.val (eS a), .val (eS b)] = some (.val (eS (meetS a b)), [])) (h1 : BackF ba) (h2 : SumF su) (hs : SameOk 2 sa)
    (l0 : ∀ a k, ha_ [.val (eS a), .val (.int k)] = some (.val (.bool (hasS a k)), [])) (l3 : ∀ a b, pl [.val (eS a), .val (eS b)] = some (.val (eS (sumS a b)), [])) {a b : SS} (oa : okS a = true) (ob : okS b = true) (ns : List Int) :
    k__law_sums_right ho me ba su sa ha_ pl [.val (eS a), .val (eS b), .val (.list (ns.map PyData.int))] = some (.val (.bool true), []) := by
  obtain ⟨e, he, o4, o5, o6, rfl, -, -, -⟩ := forL_inv (g := gN 4) (b := k__law_sums_right_l1 ho me ba su sa ha_)
    (I := fun e => ∃ o4 o5 o6 : Sl, e = [.val (eS a), .val (eS b), .val (.list (ns.map PyData.int)), .val (eS (sumS a b)), o4, o5, o6] ∧ Fr o4 ∧ Fr o5 ∧ Fr o6) (ns.map PyData.int) [.val (eS a), .val (eS b), .val (.list (ns.map PyData.int)), .val (eS (sumS a b)), .no, .no, .no]
    ⟨_, _, _, rfl, rfl, rfl, rfl⟩ (by
      rintro d hd e ⟨o4, o5, o6, rfl, f4, f5, f6⟩
      obtain ⟨k, _, rfl⟩ := List.mem_map.mp hd
      have okk : okS (some (some k, some k)) = true := decide_eq_true (Int.le_refl _)
      have s2 := h2 (some (some k, some k)) (backS b) okk (ok_back ob)
      simp only [eS_s, eE_s] at s2
      have m := hm a (sumS (some (some k, some k)) (backS b)) oa (ok_sum okk (ok_back ob))
      have q := q_neS0 (meetS a (sumS (some (some k, some k)) (backS b)))
      rw [sum_iff oa ob] at q
      have s1 := hs (.tuple [.bool (hasS (sumS a b) k), .bool (hasS (sumS a b) k)]) (gd_tup 1 _ (by simp) (all_cons (gd_bool _ _) (all_cons (gd_bool _ _) all_nil)))
      refine ⟨[.val (eS a), .val (eS b), .val (.list (ns.map PyData.int)), .val (eS (sumS a b)), .val (.int k), o5, o6], [.val (eS a), .val (eS b), .val (.list (ns.map PyData.int)), .val (eS (sumS a b)), .val (.int k), .val (.bool (hasS (sumS a b) k)), .val (eS (meetS a (sumS (some (some k, some k)) (backS b))))], ?_, ?_, _, _, _, rfl, rfl, rfl, rfl⟩
      · simp! only [show isPar o4 = false from f4]
      · simp! only [k__law_sums_right_l1, show isPar o5 = false from f5, show isPar o6 = false from f6, l0, h1 b ob, s2, m, q, h2 a b oa ob, h0 _ k (ok_sum oa ob), s1])
  simp! only [k__law_sums_right, k__law_sums_right_b, l3, he]
end
end Ev
namespace Ev
open PySem PySem.Spec PyProof.Rows L2
/-! ## settled stretches and rests -/
def lowT (l : EE) (r m : Int) : EE := l.map fun l => l + (r - l) % m
def highT (h : EE) (r m : Int) : EE := h.map fun h => h - (h - r) % m
def setT : SS → RR → SS × RR
  | some (l, h), some (r, m) =>
    if m = 0 then (if hasS (some (l, h)) r = true then (some (some r, some r), some (r, 0)) else (none, none))
    else match lowT l r m, highT h r m with
      | some x, some y => if x < y then (some (some x, some y), some (r, m)) else if x = y then (some (some x, some x), some (x, 0)) else (none, none)
      | lo, hi => (some (lo, hi), some (r, m))
  | _, _ => (none, none)
theorem mul_nn {m p : Int} (hm : 0 < m) (h : m ∣ p) (h2 : -m < p) : 0 ≤ p := by
  obtain ⟨k, rfl⟩ := h
  rcases Int.lt_or_le k 0 with c | c
  · have : m * k ≤ m * (-1) := Int.mul_le_mul_of_nonneg_left (by omega) (by omega)
    omega
  · exact Int.mul_nonneg (by omega) c
theorem low_dvd (l r : Int) {m : Int} : m ∣ (l + (r - l) % m) - r := by
  have h := Int.emod_add_mul_ediv (r - l) m
  exact ⟨-((r - l) / m), by rw [Int.mul_neg]; omega⟩
theorem high_dvd (h r : Int) {m : Int} : m ∣ (h - (h - r) % m) - r := by
  have h' := Int.emod_add_mul_ediv (h - r) m
  exact ⟨(h - r) / m, by omega⟩
theorem dvd_sub' {m a b r : Int} (h1 : m ∣ a - r) (h2 : m ∣ b - r) : m ∣ a - b := by
  have := Int.dvd_sub h1 h2
  rwa [show a - r - (b - r) = a - b by omega] at this
theorem low_snap {l r m c : Int} (hm : 0 < m) (h : m ∣ c - r) : l ≤ c ↔ l + (r - l) % m ≤ c := by
  have e1 := Int.emod_nonneg (r - l) (b := m) (by omega)
  have e2 := Int.emod_lt_of_pos (r - l) hm
  constructor
  · intro q
    have := mul_nn hm (dvd_sub' h (low_dvd l r)) (by omega)
    omega
  · omega
theorem high_snap {l r m c : Int} (hm : 0 < m) (h : m ∣ c - r) : c ≤ l ↔ c ≤ l - (l - r) % m := by
  have e1 := Int.emod_nonneg (l - r) (b := m) (by omega)
  have e2 := Int.emod_lt_of_pos (l - r) hm
  constructor
  · intro q
    have := mul_nn hm (dvd_sub' (high_dvd l r) h) (by omega)
    omega
  · omega
theorem has_low {l h : EE} {k : Int} : hasS (some (l, h)) k = (leE l (some k) && leE (some k) h) := rfl
theorem hasR_iff {r m k : Int} : hasR (some (r, m)) k = true ↔ m ∣ k - r := by
  show decide _ = true ↔ _
  rw [decide_eq_true_iff]
/-- told by cases -/
theorem set_cases (a : SS) (b : RR) (hb : okR b = true) :
    (setT a b = (none, none) ∧ ∀ c, ¬ (hasS a c = true ∧ hasR b c = true)) ∨
    (∃ x, setT a b = (some (some x, some x), some (x, 0)) ∧ hasS a x = true ∧ hasR b x = true ∧ (∀ c, hasS a c = true → hasR b c = true → c = x)) ∨
    (∃ l h r m, a = some (l, h) ∧ b = some (r, m) ∧ 0 < m ∧ setT a b = (some (lowT l r m, highT h r m), some (r, m)) ∧ ((lowT l r m = none ∨ highT h r m = none) ∨ ∃ x y, lowT l r m = some x ∧ highT h r m = some y ∧ x < y)) := by
  rcases a with _ | ⟨l, h⟩
  · exact .inl ⟨by cases b <;> rfl, fun c q => by cases q.1⟩
  rcases b with _ | ⟨r, m⟩
  · exact .inl ⟨rfl, fun c q => by cases q.2⟩
  rcases ok_r hb with rfl | ⟨hm, -, -, -⟩
  · have hu : ∀ c, hasR (some (r, 0)) c = true → c = r := fun c q => by have := Int.zero_dvd.mp (hasR_iff.mp q); omega
    cases q : hasS (some (l, h)) r with
    | true =>
      refine .inr (.inl ⟨r, ?_, q, hasR_iff.mpr (by simp), fun c _ q => hu c q⟩)
      unfold setT; dsimp only
      rw [if_pos rfl, if_pos q]
    | false =>
      refine .inl ⟨?_, fun c z => ?_⟩
      · unfold setT; dsimp only
        rw [if_pos rfl, if_neg (by rw [q]; decide)]
      · have := hu c z.2
        subst this
        rw [q] at z
        cases z.1
  · have ne : ¬ m = 0 := by omega
    rcases l with _ | l
    · refine .inr (.inr ⟨none, h, r, m, rfl, rfl, hm, ?_, .inl (.inl rfl)⟩)
      unfold setT; dsimp only
      rw [if_neg ne]
      rfl
    rcases h with _ | h
    · refine .inr (.inr ⟨some l, none, r, m, rfl, rfl, hm, ?_, .inl (.inr rfl)⟩)
      unfold setT; dsimp only
      rw [if_neg ne]
      rfl
    have hs : setT (some (some l, some h)) (some (r, m)) = if l + (r - l) % m < h - (h - r) % m then (some (some (l + (r - l) % m), some (h - (h - r) % m)), some (r, m)) else if l + (r - l) % m = h - (h - r) % m then (some (some (l + (r - l) % m), some (l + (r - l) % m)), some (l + (r - l) % m, 0)) else (none, none) := by
      unfold setT; dsimp only
      rw [if_neg ne]
      rfl
    have hm1 : ∀ c, hasS (some (some l, some h)) c = true → hasR (some (r, m)) c = true → l + (r - l) % m ≤ c ∧ c ≤ h - (h - r) % m := fun c q1 q2 => by
      have q3 := hasR_iff.mp q2
      have q4 : l ≤ c ∧ c ≤ h := by simpa [hasS, leE] using q1
      exact ⟨(low_snap hm q3).mp q4.1, (high_snap hm q3).mp q4.2⟩
    by_cases c1 : l + (r - l) % m < h - (h - r) % m
    · refine .inr (.inr ⟨some l, some h, r, m, rfl, rfl, hm, ?_, .inr ⟨_, _, rfl, rfl, c1⟩⟩)
      rw [hs, if_pos c1]
      rfl
    by_cases c2 : l + (r - l) % m = h - (h - r) % m
    · refine .inr (.inl ⟨l + (r - l) % m, ?_, ?_, hasR_iff.mpr (low_dvd l r), fun c q1 q2 => ?_⟩)
      · rw [hs, if_neg c1, if_pos c2]
      · have e1 := Int.emod_nonneg (r - l) ne
        have e2 := Int.emod_nonneg (h - r) ne
        have : l ≤ l + (r - l) % m ∧ l + (r - l) % m ≤ h := by omega
        simpa [hasS, leE] using this
      · have := hm1 c q1 q2
        omega
    · refine .inl ⟨?_, fun c q => ?_⟩
      · rw [hs, if_neg c1, if_neg c2]
      · have := hm1 c q.1 q.2
        omega
theorem low_le {l : EE} {r m c : Int} (hm : 0 < m) (h : m ∣ c - r) : leE (lowT l r m) (some c) = leE l (some c) := by
  cases l with
  | none => rfl
  | some l => exact decide_eq_decide.mpr (low_snap hm h).symm
theorem high_le {l : EE} {r m c : Int} (hm : 0 < m) (h : m ∣ c - r) : leE (some c) (highT l r m) = leE (some c) l := by
  cases l with
  | none => rfl
  | some l => exact decide_eq_decide.mpr (high_snap hm h).symm
theorem set_has {a : SS} {b : RR} (hb : okR b = true) (c : Int) : (hasS (setT a b).1 c && hasR (setT a b).2 c) = (hasS a c && hasR b c) := by
  rcases set_cases a b hb with ⟨e, q⟩ | ⟨x, e, q1, q2, q3⟩ | ⟨l, h, r, m, rfl, rfl, hm, e, -⟩
  · rw [e]
    have := q c
    cases q1 : hasS a c <;> cases q2 : hasR b c <;> first | rfl | exact absurd ⟨q1, q2⟩ this
  · rw [e]
    apply Bool.eq_iff_iff.mpr
    rw [Bool.and_eq_true, Bool.and_eq_true]
    constructor
    · rintro ⟨h1, h2⟩
      have : c = x := by have := Int.zero_dvd.mp (hasR_iff.mp h2); omega
      subst this
      exact ⟨q1, q2⟩
    · rintro ⟨h1, h2⟩
      rw [q3 c h1 h2]
      exact ⟨by simp [hasS, leE], hasR_iff.mpr (by simp)⟩
  · rw [e]
    cases q : hasR (some (r, m)) c with
    | false => rw [Bool.and_false, Bool.and_false]
    | true =>
      have q' := hasR_iff.mp q
      rw [has_low, has_low, low_le hm q', high_le hm q']
theorem set_ok {a : SS} {b : RR} (ha : okS a = true) (hb : okR b = true) : okS (setT a b).1 = true ∧ okR (setT a b).2 = true := by
  rcases set_cases a b hb with ⟨e, q⟩ | ⟨x, e, q1, q2, q3⟩ | ⟨l, h, r, m, rfl, rfl, hm, e, w⟩
  · rw [e]; exact ⟨rfl, rfl⟩
  · rw [e]; exact ⟨by simp [okS, leE], ok_of (.inl rfl)⟩
  · rw [e]
    refine ⟨?_, hb⟩
    show leE _ _ = true
    rcases w with (w | w) | ⟨x, y, w1, w2, w3⟩
    · rw [w]; rfl
    · rw [w]; cases lowT l r m <;> rfl
    · rw [w1, w2]; exact decide_eq_true (by omega)
theorem low_low {l : EE} {r m : Int} (hm : 0 < m) : lowT (lowT l r m) r m = lowT l r m := by
  cases l with
  | none => rfl
  | some l =>
    show some (l + (r - l) % m + (r - (l + (r - l) % m)) % m) = some (l + (r - l) % m)
    have h : m ∣ r - (l + (r - l) % m) := by have := low_dvd l r (m := m); exact (dvd_neg' (by omega)).mp this
    rw [Int.emod_eq_zero_of_dvd h, Int.add_zero]
theorem high_high {l : EE} {r m : Int} (hm : 0 < m) : highT (highT l r m) r m = highT l r m := by
  cases l with
  | none => rfl
  | some l =>
    show some (l - (l - r) % m - (l - (l - r) % m - r) % m) = some (l - (l - r) % m)
    rw [Int.emod_eq_zero_of_dvd (high_dvd l r), Int.sub_zero]
theorem set_set {a : SS} {b : RR} (hb : okR b = true) : setT (setT a b).1 (setT a b).2 = setT a b := by
  rcases set_cases a b hb with ⟨e, q⟩ | ⟨x, e, q1, q2, q3⟩ | ⟨l, h, r, m, rfl, rfl, hm, e, w⟩
  · rw [e]; rfl
  · rw [e]
    unfold setT; dsimp only
    rw [if_pos rfl, if_pos (by simp [hasS, leE])]
  · rw [e]
    have ne : ¬ m = 0 := by omega
    unfold setT; dsimp only
    rw [if_neg ne, low_low hm, high_high hm]
    rcases w with (w | w) | ⟨x, y, w1, w2, w3⟩
    · rw [w]
    · rw [w]; cases lowT l r m <;> rfl
    · rw [w1, w2]
      show (if x < y then _ else _) = _
      rw [if_pos w3]
theorem set_within {a : SS} {b : RR} (hb : okR b = true) : withinS (setT a b).1 a = true ∧ withinR (setT a b).2 b = true := by
  rcases set_cases a b hb with ⟨e, q⟩ | ⟨x, e, q1, q2, q3⟩ | ⟨l, h, r, m, rfl, rfl, hm, e, w⟩
  · rw [e]; exact ⟨rfl, rfl⟩
  · rw [e]
    rcases a with _ | ⟨l, h⟩
    · cases q1
    rcases b with _ | ⟨r, m⟩
    · cases q2
    refine ⟨?_, within_some.mpr ⟨hasR_iff.mp q2, by simp⟩⟩
    rw [has_low, Bool.and_eq_true] at q1
    show (lowW (some x) l && highW (some x) h) = true
    rw [Bool.and_eq_true]
    constructor
    · cases l with
      | none => rfl
      | some l => exact q1.1
    · cases h with
      | none => rfl
      | some h => exact q1.2
  · rw [e]
    refine ⟨?_, withinR_refl _⟩
    show (lowW _ l && highW _ h) = true
    have ne : ¬ m = 0 := by omega
    rw [Bool.and_eq_true]
    constructor
    · cases l with
      | none => rfl
      | some l =>
        have := Int.emod_nonneg (r - l) ne
        exact decide_eq_true (show l ≤ l + (r - l) % m by omega)
    · cases h with
      | none => rfl
      | some h =>
        have := Int.emod_nonneg (h - r) ne
        exact decide_eq_true (show h - (h - r) % m ≤ h by omega)
/-! ### tried -/
theorem gcdL_abs {n : Int} {ns : List Int} {m : Int} (h : ∀ d : Nat, (∀ x ∈ n :: ns, (d : Int) ∣ x - n) ↔ (d : Int) ∣ m) : gcdL n (n :: ns) 0 = m.natAbs :=
  nat_eq_of_dvd fun d => by
    rw [gcdL_dvd, dvd_abs]
    constructor
    · exact fun q => (h d).mp q.2
    · exact fun q => ⟨Nat.dvd_zero _, (h d).mpr q⟩
theorem tried_set {a : SS} {b : RR} {ns : List Int} (hb : okR b = true) (hn : ∀ c, c ∈ ns ↔ (hasS a c = true ∧ hasR b c = true)) (hl : ∃ l h, a = some (some l, some h)) : hullS ns = (setT a b).1 ∧ leastR ns = (setT a b).2 := by
  rcases set_cases a b hb with ⟨e, q⟩ | ⟨x, e, q1, q2, q3⟩ | ⟨l, h, r, m, rfl, rfl, hm, e, w⟩
  · have : ns = [] := List.eq_nil_iff_forall_not_mem.mpr fun c hc => q c ((hn c).mp hc)
    rw [e, this]; exact ⟨rfl, rfl⟩
  · have hx : x ∈ ns := (hn x).mpr ⟨q1, q2⟩
    have hu : ∀ c ∈ ns, c = x := fun c hc => q3 c ((hn c).mp hc).1 ((hn c).mp hc).2
    rw [e]
    refine ⟨hull_of hx hx fun c hc => by have := hu c hc; omega, ?_⟩
    cases ns with
    | nil => cases hx
    | cons n ns =>
      have en : n = x := hu n (List.mem_cons_self ..)
      subst en
      have hg : gcdL n (n :: ns) 0 = (0 : Int).natAbs := gcdL_abs fun d => ⟨fun _ => by simp, fun _ z hz => by rw [hu z hz]; simp⟩
      show restBy n (grain (gcdL n (n :: ns) 0)) = _
      rw [hg]
      rfl
  · obtain ⟨l', h', el⟩ := hl
    obtain ⟨rfl, rfl⟩ : l = some l' ∧ h = some h' := by simpa using el
    rcases w with (w | w) | ⟨x, y, w1, w2, w3⟩
    · cases w
    · cases w
    have ex : l' + (r - l') % m = x := Option.some.inj w1
    have ey : h' - (h' - r) % m = y := Option.some.inj w2
    have hx : m ∣ x - r := ex ▸ low_dvd l' r
    have hy : m ∣ y - r := ey ▸ high_dvd h' r
    have hxy : x + m ≤ y := by
      have := mul_nn hm (p := y - x - m) (by have := Int.dvd_sub (dvd_sub' hy hx) (Int.dvd_refl m); exact this) (by omega)
      omega
    have hmem : ∀ c, m ∣ c - r → x ≤ c → c ≤ y → c ∈ ns := fun c d1 d2 d3 => (hn c).mpr ⟨by
      have a1 := (low_snap hm d1).mpr (show l' + (r - l') % m ≤ c by omega)
      have a2 := (high_snap hm d1).mpr (show c ≤ h' - (h' - r) % m by omega)
      simpa [hasS, leE] using And.intro a1 a2, hasR_iff.mpr d1⟩
    have hall : ∀ c ∈ ns, m ∣ c - r ∧ x ≤ c ∧ c ≤ y := fun c hc => by
      obtain ⟨c1, c2⟩ := (hn c).mp hc
      have d1 := hasR_iff.mp c2
      have c3 : l' ≤ c ∧ c ≤ h' := by simpa [hasS, leE] using c1
      have a1 := (low_snap hm d1).mp c3.1
      have a2 := (high_snap hm d1).mp c3.2
      exact ⟨d1, by omega, by omega⟩
    have mx := hmem x hx (by omega) (by omega)
    have my := hmem y hy (by omega) (by omega)
    have mz := hmem (x + m) (by rw [show x + m - r = x - r + m by omega]; exact Int.dvd_add hx (Int.dvd_refl m)) (by omega) hxy
    rw [e, w1, w2]
    refine ⟨hull_of mx my fun c hc => (hall c hc).2, ?_⟩
    cases ns with
    | nil => cases mx
    | cons n ns =>
      have hn1 := hall n (List.mem_cons_self ..)
      have hg : gcdL n (n :: ns) 0 = m.natAbs := gcdL_abs fun d => by
        constructor
        · intro q
          have q1 := q _ mx
          have q2 := q _ mz
          have := Int.dvd_sub q2 q1
          rwa [show x + m - n - (x - n) = m by omega] at this
        · intro q z hz
          exact Int.dvd_trans q (dvd_sub' (hall z hz).1 hn1.1)
      rcases ok_r hb with rfl | ⟨-, h2, h3, h4⟩
      · omega
      show restBy n (grain (gcdL n (n :: ns) 0)) = _
      rw [hg, grain_self (.inr ⟨hm, h2⟩)]
      unfold restBy
      rw [if_neg (by omega)]
      have : n % m = r := by
        have h9 : n % m = r % m := (Int.emod_eq_emod_iff_emod_sub_eq_zero).mpr (Int.emod_eq_zero_of_dvd hn1.1)
        rw [h9, Int.emod_eq_of_lt h3 h4]
      rw [this]
end Ev
namespace Ev
local macro_rules
  | `(tactic| simp! only [$as,*]) => `(tactic| simp only [↓x_var, ↓x_C, ↓x_op, ↓x_fz, ↓x_rV, ↓x_B, ↓x_chain, ↓x_tru, ↓x_notT, ↓x_andT, ↓x_orT, ↓x_and, ↓x_or, ↓x_not, ↓x_neg, ↓x_if, ↓x_aNil, ↓x_aVal, ↓x_aSlot, ↓x_aTmp, ↓x_aR, ↓x_call, ↓x_callK, ↓x_dNil, ↓x_dCons, ↓x_tup, ↓x_lst, ↓x_itemN, ↓x_ownItem, ↓x_lenN, ↓x_blt, ↓x_isi, ↓x_list, ↓x_rgL1, ↓x_rgL2, ↓x_iSeq, ↓x_iZip, ↓x_range1, ↓x_range2, ↓x_addR, ↓x_slice, ↓x_partN, ↓x_partS, ↓x_comp, ↓x_skip, ↓x_stuck, ↓x_break, ↓x_cont, ↓x_seq, ↓x_sIf, ↓x_sExpr, ↓x_ret, ↓x_retN, ↓x_move, ↓x_setRv, ↓x_setRf, ↓x_set, ↓x_gN, ↓x_gsNil, ↓x_gsCons, ↓x_gTup, ↓x_gIx, ↓x_setAt, ↓x_asg, ↓x_par, ↓x_sm0, ↓x_smV, ↓x_smF, ↓x_app, ↓x_for, ↓x_for0, ↓x_for1, ↓x_comp0, ↓x_comp1, ↓x_fn, ↓x_iEnum, ↓x_range3, ↓x_comp2, ↓x_compN0, ↓x_compN1, q_addI, q_addT, q_addL, q_subI, q_ltI, q_leI, q_gtI, q_geI, q_isN, q_isNotN, q_eqI, q_neI, q_eqB, q_eqT0, q_eqT1, q_neT0, q_neT1, q_eqL0, q_eqL1, q_neL0, q_neL1, q_int, q_abs, q_min2, q_max2, q_at0, q_at1, q_at2, q_at3, q_ix0, q_ix1, q_ix2, q_sz, q_iteS, q_iteT, q_iteR, q_iteV, q_iteBB, q_iteII, q_iteAnd, q_iteOr, q_iteNot, q_iteCon, q_pa0, q_pa1, q_pa2, q_pa3, q_ow0, q_ow1, q_ow2, q_ow3, q_c0, q_c1, q_c2, q_c3, q_c4, q_c5, q_c6, q_c7, q_c8, q_c9, q_c10, q_c11, q_c12, q_all0, q_all1, q_all2, q_all3, q_inN2, q_inN0, q_02a, q_02b, List.getElem?_cons_zero, List.getElem?_cons_succ, List.set_cons_zero, List.set_cons_succ, wipeE, initE, outsOf, toAv, slotsOf, putOuts, natNodup, List.map_cons, List.map_nil, List.cons_append, List.nil_append, List.append_nil, List.replicate, List.length_cons, List.length_nil, isNone, isiD, seqD, gItem, truD, zipOf, zipD, pick, List.contains_nil, List.contains_cons, eq_self, if_true, if_false, Bool.false_eq_true, Bool.true_eq_false, Bool.not_true, Bool.not_false, reduceIte, decide_true, decide_false, Nat.reduceAdd, Nat.reduceSub, Nat.zero_add, Nat.add_zero, and_self, true_and, and_true, Bool.and_true, Bool.true_and, Bool.or_false, Bool.false_or, Bool.or_true, Bool.true_or, Bool.and_false, Bool.false_and, Bool.or_self, Bool.and_self, Nat.sub_self, Option.map_some, Option.map_none, Nat.reduceBEq, Bool.not_eq_true, beq_self_eq_true, Nat.reduceLeDiff, Nat.reduceLT, Nat.reduceEqDiff, List.filterMap_cons, List.filterMap_nil, $as,*])
open PySem PySem.Spec PyProof.Rows L2
section
variable {f g h w : Fn}
/-! ## k34: what is settled -/
def eT (p : SS × RR) : D := .tuple [eS p.1, eR p.2]
abbrev HasF (f : Fn) : Prop := ∀ (a : SS) (k : Int), f [.val (eS a), .val (.int k)] = some (.val (.bool (hasS a k)), [])
abbrev FirstF (f : Fn) : Prop := ∀ (l : EE) (r m : Int), 0 < m → f [.val (eE l), .val (eR (some (r, m)))] = some (.val (eE (lowT l r m)), [])
abbrev LastF (f : Fn) : Prop := ∀ (l : EE) (r m : Int), 0 < m → f [.val (eE l), .val (eR (some (r, m)))] = some (.val (eE (highT l r m)), [])
abbrev SetF (f : Fn) : Prop := ∀ (a : SS) (b : RR), okS a = true → okR b = true → f [.val (eS a), .val (eR b)] = some (.val (eT (setT a b)), [])
theorem k_firstFrom_ok : FirstF k_first_from := fun l r m hm => by
  cases l with
  | none => simp! only [k_first_from, k_first_from_b, eE_n, eR_s, lowT, Option.map_none]
  | some l => simp! only [k_first_from, k_first_from_b, eE_s, eR_s, lowT, Option.map_some, q_modI hm]
theorem k_lastUp_ok : LastF k_last_up_to := fun l r m hm => by
  cases l with
  | none => simp! only [k_last_up_to, k_last_up_to_b, eE_n, eR_s, highT, Option.map_none]
  | some l => simp! only [k_last_up_to, k_last_up_to_b, eE_s, eR_s, highT, Option.map_some, q_modI hm]
theorem meet_point (l h : EE) (r : Int) : meetS (some (l, h)) (some (some r, some r)) = if hasS (some (l, h)) r = true then some (some r, some r) else none := by
  rcases l with _ | l
  · rcases h with _ | h
    · rw [show meetS (some (none, none)) (some (some r, some r)) = some (some r, some r) by simp [meetS, lowM, highM, leE]]
      rfl
    · show (if decide (r ≤ min h r) = true then some (some r, some (min h r)) else none) = if (true && decide (r ≤ h)) = true then _ else _
      rw [Bool.true_and]
      by_cases c : r ≤ h
      · rw [if_pos (decide_eq_true (by omega)), if_pos (decide_eq_true c), show min h r = r by omega]
      · rw [if_neg (by rw [decide_eq_true_iff]; omega), if_neg (by rw [decide_eq_true_iff]; omega)]
  · rcases h with _ | h
    · show (if decide (max l r ≤ r) = true then some (some (max l r), some r) else none) = if (decide (l ≤ r) && true) = true then _ else _
      rw [Bool.and_true]
      by_cases c : l ≤ r
      · rw [if_pos (decide_eq_true (by omega)), if_pos (decide_eq_true c), show max l r = r by omega]
      · rw [if_neg (by rw [decide_eq_true_iff]; omega), if_neg (by rw [decide_eq_true_iff]; omega)]
    · show (if decide (max l r ≤ min h r) = true then some (some (max l r), some (min h r)) else none) = if (decide (l ≤ r) && decide (r ≤ h)) = true then _ else _
      by_cases c : l ≤ r ∧ r ≤ h
      · rw [if_pos (decide_eq_true (by omega)), if_pos (by rw [decide_eq_true c.1, decide_eq_true c.2]; rfl), show max l r = r by omega, show min h r = r by omega]
      · rw [if_neg (by rw [decide_eq_true_iff]; omega), if_neg (by rw [Bool.and_eq_true, decide_eq_true_iff, decide_eq_true_iff]; exact c)]
theorem set_p0 (l h : EE) (r : Int) : setT (some (l, h)) (some (r, 0)) = if hasS (some (l, h)) r = true then (some (some r, some r), some (r, 0)) else (none, none) := by
  unfold setT; dsimp only
  rw [if_pos rfl]
theorem set_pos {l h : EE} {r m : Int} (hm : 0 < m) : setT (some (l, h)) (some (r, m)) = match lowT l r m, highT h r m with
      | some x, some y => if x < y then (some (some x, some y), some (r, m)) else if x = y then (some (some x, some x), some (x, 0)) else (none, none)
      | lo, hi => (some (lo, hi), some (r, m)) := by
  unfold setT; dsimp only
  rw [if_neg (by omega)]
  all_goals rfl
theorem set_ne (b : RR) : setT none b = (none, none) := by cases b <;> rfl
theorem set_en (a : SS) : setT a none = (none, none) := by rcases a with _ | ⟨l, h⟩ <;> rfl
theorem eT_n : eT (none, none) = .tuple [.tuple [], .tuple []] := rfl
theorem k_settledBy_ok (h1 : ∀ a b : SS, f [.val (eS a), .val (eS b)] = some (.val (eS (meetS a b)), [])) (h2 : FirstF g) (h3 : LastF h) {a : SS} {b : RR} (hb : okR b = true) : k_settled_by f g h [.val (eS a), .val (eR b)] = some (.val (eT (setT a b)), []) := by
  rcases a with _ | ⟨l, u⟩
  · rw [set_ne, eT_n]
    simp! only [k_settled_by, k_settled_by_b, eS_n]
  rcases b with _ | ⟨r, m⟩
  · rw [set_en, eT_n]
    simp! only [k_settled_by, k_settled_by_b, eS_s, eR_n]
  rcases ok_r hb with rfl | ⟨hm, -, -, -⟩
  · have e1 := h1 (some (l, u)) (some (some r, some r))
    rw [meet_point] at e1
    rw [set_p0]
    cases c : hasS (some (l, u)) r with
    | true =>
      rw [c] at e1
      simp only [eS_s, eE_s, if_true] at e1
      simp! only [k_settled_by, k_settled_by_b, eS_s, eR_s, e1, eT, eE_s]
    | false =>
      rw [c] at e1
      simp only [eS_s, eE_s, Bool.false_eq_true, if_false, eS_n] at e1
      simp! only [k_settled_by, k_settled_by_b, eS_s, eR_s, e1, eT_n]
  · have ne : ¬ m = 0 := by omega
    have e2 := h2 l r m hm
    have e3 := h3 u r m hm
    rw [set_pos hm]
    rw [eR_s] at e2 e3
    rcases l with _ | l
    · simp only [lowT, Option.map_none, eE_n] at e2
      simp! only [k_settled_by, k_settled_by_b, eS_s, eR_s, eE_n, ne, e2, e3, eT, lowT, Option.map_none]
    rcases u with _ | u
    · simp only [highT, Option.map_none, eE_n] at e3
      simp only [lowT, Option.map_some, eE_s] at e2
      simp! only [k_settled_by, k_settled_by_b, eS_s, eR_s, eE_n, eE_s, ne, e2, e3, eT, lowT, highT, Option.map_none, Option.map_some]
    simp only [lowT, Option.map_some, eE_s] at e2
    simp only [highT, Option.map_some, eE_s] at e3
    show k_settled_by f g h [.val (eS (some (some l, some u))), .val (eR (some (r, m)))] = some (.val (eT (if l + (r - l) % m < u - (u - r) % m then (some (some (l + (r - l) % m), some (u - (u - r) % m)), some (r, m)) else if l + (r - l) % m = u - (u - r) % m then (some (some (l + (r - l) % m), some (l + (r - l) % m)), some (l + (r - l) % m, 0)) else (none, none))), [])
    generalize l + (r - l) % m = x at *
    generalize u - (u - r) % m = y at *
    by_cases c1 : x < y
    · have c2 : ¬ x ≥ y := by omega
      simp! only [k_settled_by, k_settled_by_b, eS_s, eR_s, eE_s, ne, e2, e3, c1, c2, eT]
    · have c2 : x ≥ y := by omega
      by_cases c3 : x = y
      · subst c3
        simp! only [k_settled_by, k_settled_by_b, eS_s, eR_s, eE_s, ne, e2, e3, c1, c2, eT]
      · simp! only [k_settled_by, k_settled_by_b, eS_s, eR_s, eE_s, ne, e2, e3, c1, c2, c3, eT_n]
theorem k_settled_ok (h1 : ∀ (a : SS) (b : RR), okR b = true → f [.val (eS a), .val (eR b)] = some (.val (eT (setT a b)), [])) (h2 : ∀ a : SS, okS a = true → g [.val (eS a)] = some (.val .none, [])) (h3 : ChkR h) : SetF (k_settled f g h) := fun a b ha hb => by
  simp! only [k_settled, k_settled_b, h1 a b hb, h2 a ha, h3 b hb]
theorem k_rholds_ok (h1 : LeftF f) (h2 : ChkR g) (h3 : ∀ i : Int, h [.val (.int i)] = some (.val .none, [])) : LeftF (k_rest_holds f g h) := fun a k ha => by
  simp! only [k_rest_holds, k_rest_holds_b, h1 a k ha, h2 a ha, h3]
theorem k_lsettled_ok (h1 : HasF f) {a : SS} {b : RR} (hb : okR b = true) : k__law_settled f [.val (eS a), .val (eR b)] = some (.val (eT (setT a b)), []) := by
  rcases a with _ | ⟨l, u⟩
  · rw [set_ne, eT_n]
    simp! only [k__law_settled, k__law_settled_b, eS_n]
  rcases b with _ | ⟨r, m⟩
  · rw [set_en, eT_n]
    simp! only [k__law_settled, k__law_settled_b, eS_s, eR_n]
  rcases ok_r hb with rfl | ⟨hm, -, -, -⟩
  · have e1 := h1 (some (l, u)) r
    rw [set_p0]
    rw [eS_s] at e1
    cases c : hasS (some (l, u)) r with
    | true =>
      rw [c] at e1
      simp! only [k__law_settled, k__law_settled_b, eS_s, eR_s, e1, eT, eE_s]
    | false =>
      rw [c] at e1
      simp! only [k__law_settled, k__law_settled_b, eS_s, eR_s, e1, eT_n]
  · have ne : ¬ m = 0 := by omega
    rw [set_pos hm]
    rcases l with _ | l
    · rcases u with _ | u
      · simp! only [k__law_settled, k__law_settled_b, eS_s, eR_s, eE_n, ne, eT, lowT, highT, Option.map_none]
      · simp! only [k__law_settled, k__law_settled_b, eS_s, eR_s, eE_n, eE_s, ne, eT, lowT, highT, Option.map_none, Option.map_some, q_modI hm]
    rcases u with _ | u
    · simp! only [k__law_settled, k__law_settled_b, eS_s, eR_s, eE_n, eE_s, ne, eT, lowT, highT, Option.map_none, Option.map_some, q_modI hm]
    show k__law_settled f [.val (eS (some (some l, some u))), .val (eR (some (r, m)))] = some (.val (eT (if l + (r - l) % m < u - (u - r) % m then (some (some (l + (r - l) % m), some (u - (u - r) % m)), some (r, m)) else if l + (r - l) % m = u - (u - r) % m then (some (some (l + (r - l) % m), some (l + (r - l) % m)), some (l + (r - l) % m, 0)) else (none, none))), [])
    by_cases c1 : l + (r - l) % m < u - (u - r) % m
    · simp! only [k__law_settled, k__law_settled_b, eS_s, eR_s, eE_s, ne, c1, eT, q_modI hm]
    · by_cases c3 : l + (r - l) % m = u - (u - r) % m
      · have c4 : ¬ u - (u - r) % m < u - (u - r) % m := by omega
        simp! only [k__law_settled, k__law_settled_b, eS_s, eR_s, eE_s, ne, c1, c3, c4, eT, q_modI hm]
      · simp! only [k__law_settled, k__law_settled_b, eS_s, eR_s, eE_s, ne, c1, c3, eT_n, q_modI hm]
/-! ### tried -/
theorem compF (p : Int → Bool) (c : Fx Bool) (i : Nat) (xs : List Int) (env : En) (hl : xs.length ≤ 1000) (hi : ∀ x : Int, ∃ e, gN i (.int x) env = some e ∧ c e = some (p x, e) ∧ eVar i e = some (.int x, e) ∧ wipeE e [i] = env) :
    compL (gN i) c (eVar i) [i] (xs.map PyData.int) [] env = some ((xs.filter p).map PyData.int, env) := by
  rw [compL_map (p := fun d => match d with | .int x => p x | _ => false) (h := id) _ [] (by rw [List.length_map, List.length_nil, q_sz]; omega) fun d hd => ?_]
  · rw [List.nil_append, List.filter_map, List.map_id]
    rfl
  · obtain ⟨x, _, rfl⟩ := List.mem_map.mp hd
    obtain ⟨e, e1, e2, e3, e4⟩ := hi x
    exact ⟨e, e, e1, e2, fun _ => ⟨e, e3, e4⟩, fun _ => e4⟩
def spanL (l h : Int) : List Int := (List.range (h + 1 - l).toNat).map fun k => l + (k : Nat)
theorem span_mem {l h c : Int} : c ∈ spanL l h ↔ l ≤ c ∧ c ≤ h := by
  unfold spanL
  rw [List.mem_map]
  constructor
  · rintro ⟨k, hk, rfl⟩
    have := List.mem_range.mp hk
    omega
  · rintro ⟨h1, h2⟩
    exact ⟨(c - l).toNat, List.mem_range.mpr (by omega), by omega⟩
theorem span_range (l h : Int) : rangeD l (h + 1 - l).toNat = (spanL l h).map PyData.int := by
  unfold rangeD spanL
  rw [List.map_map]
  rfl
theorem k34_tried_ok (h1 : LeftF f) (h2 : LeastF g) {l u : Int} {b : RR} (hb : okR b = true) (hs : u - l < 60) (z1 : -(2 ^ 300) ≤ l) (z2 : u ≤ 2 ^ 300) : k__law_tried_v5 f g [.val (eS (some (some l, some u))), .val (eR b)] = some (.val (eT (setT (some (some l, some u)) b)), []) := by
  have hc := compF (hasR b) (eTru (eFz (eCall f (aVal (eVar 1) (aVal (eVar 3) aNil))))) 3 (spanL l u) [.val (eS (some (some l, some u))), .val (eR b), .no, .no] (by unfold spanL; rw [List.length_map, List.length_range]; omega)
    (fun x => ⟨[.val (eS (some (some l, some u))), .val (eR b), .no, .val (.int x)], by simp! only [x_C], by simp! only [h1 b x hb], by simp! only [x_C], by simp! only [x_C]⟩)
  have ht := tried_set (a := some (some l, some u)) (b := b) (ns := (spanL l u).filter (hasR b)) hb (fun c => by
    rw [List.mem_filter, span_mem]
    have : hasS (some (some l, some u)) c = true ↔ l ≤ c ∧ c ≤ u := by simp [hasS, leE]
    rw [this]) ⟨l, u, rfl⟩
  have hlen : ((spanL l u).filter (hasR b)).length ≤ 100000 := by
    have := List.length_filter_le (hasR b) (spanL l u)
    have l2 : (spanL l u).length = (u + 1 - l).toNat := by unfold spanL; rw [List.length_map, List.length_range]
    omega
  have hg := h2 ((spanL l u).filter (hasR b)) hlen (fun x hx => by
    have := span_mem.mp (List.mem_filter.mp hx).1
    constructor <;> omega)
  rw [show eT (setT (some (some l, some u)) b) = .tuple [eS (hullS ((spanL l u).filter (hasR b))), eR (leastR ((spanL l u).filter (hasR b)))] by rw [ht.1, ht.2]; rfl]
  rw [eS_s, eE_s, eE_s] at hc ⊢
  have hr := span_range l u
  generalize eR b = db at hc ⊢
  generalize eR (leastR ((spanL l u).filter (hasR b))) = dl at hg ⊢
  generalize (spanL l u).filter (hasR b) = ns at hc hg ⊢
  cases ns with
  | nil =>
    rw [List.map_nil] at hg hc
    simp! only [k__law_tried_v5, k__law_tried_v5_b, hr, hc, hg, hullS, eS_n]
  | cons n ns =>
    have m1 : gMin [.list (.int n :: ns.map PyData.int)] = some (.int (ns.foldl min n)) := by
      show (intsOf ((n :: ns).map PyData.int)).bind _ = _
      rw [intsOf_map]
      rfl
    have m2 : gMax [.list (.int n :: ns.map PyData.int)] = some (.int (ns.foldl max n)) := by
      show (intsOf ((n :: ns).map PyData.int)).bind _ = _
      rw [intsOf_map]
      rfl
    rw [List.map_cons] at hg hc
    simp! only [k__law_tried_v5, k__law_tried_v5_b, hr, hc, hg, hullS, eS_s, eE_s, m1, m2]
end
end Ev
namespace Ev
local macro_rules
  | `(tactic| simp! only [$as,*]) => `(tactic| simp only [↓x_var, ↓x_C, ↓x_op, ↓x_fz, ↓x_rV, ↓x_B, ↓x_chain, ↓x_tru, ↓x_notT, ↓x_andT, ↓x_orT, ↓x_and, ↓x_or, ↓x_not, ↓x_neg, ↓x_if, ↓x_aNil, ↓x_aVal, ↓x_aSlot, ↓x_aTmp, ↓x_aR, ↓x_call, ↓x_callK, ↓x_dNil, ↓x_dCons, ↓x_tup, ↓x_lst, ↓x_itemN, ↓x_ownItem, ↓x_lenN, ↓x_blt, ↓x_isi, ↓x_list, ↓x_rgL1, ↓x_rgL2, ↓x_iSeq, ↓x_iZip, ↓x_range1, ↓x_range2, ↓x_addR, ↓x_slice, ↓x_partN, ↓x_partS, ↓x_comp, ↓x_skip, ↓x_stuck, ↓x_break, ↓x_cont, ↓x_seq, ↓x_sIf, ↓x_sExpr, ↓x_ret, ↓x_retN, ↓x_move, ↓x_setRv, ↓x_setRf, ↓x_set, ↓x_gN, ↓x_gsNil, ↓x_gsCons, ↓x_gTup, ↓x_gIx, ↓x_setAt, ↓x_asg, ↓x_par, ↓x_sm0, ↓x_smV, ↓x_smF, ↓x_app, ↓x_for, ↓x_for0, ↓x_for1, ↓x_comp0, ↓x_comp1, ↓x_fn, ↓x_iEnum, ↓x_range3, ↓x_comp2, ↓x_compN0, ↓x_compN1, q_addI, q_addT, q_addL, q_subI, q_ltI, q_leI, q_gtI, q_geI, q_isN, q_isNotN, q_eqI, q_neI, q_eqB, q_eqT0, q_eqT1, q_neT0, q_neT1, q_eqL0, q_eqL1, q_neL0, q_neL1, q_int, q_abs, q_min2, q_max2, q_at0, q_at1, q_at2, q_at3, q_ix0, q_ix1, q_ix2, q_sz, q_iteS, q_iteT, q_iteR, q_iteV, q_iteBB, q_iteII, q_iteAnd, q_iteOr, q_iteNot, q_iteCon, q_pa0, q_pa1, q_pa2, q_pa3, q_ow0, q_ow1, q_ow2, q_ow3, q_c0, q_c1, q_c2, q_c3, q_c4, q_c5, q_c6, q_c7, q_c8, q_c9, q_c10, q_c11, q_c12, q_all0, q_all1, q_all2, q_all3, q_inN2, q_inN0, q_02a, q_02b, List.getElem?_cons_zero, List.getElem?_cons_succ, List.set_cons_zero, List.set_cons_succ, wipeE, initE, outsOf, toAv, slotsOf, putOuts, natNodup, List.map_cons, List.map_nil, List.cons_append, List.nil_append, List.append_nil, List.replicate, List.length_cons, List.length_nil, isNone, isiD, seqD, gItem, truD, zipOf, zipD, pick, List.contains_nil, List.contains_cons, eq_self, if_true, if_false, Bool.false_eq_true, Bool.true_eq_false, Bool.not_true, Bool.not_false, reduceIte, decide_true, decide_false, Nat.reduceAdd, Nat.reduceSub, Nat.zero_add, Nat.add_zero, and_self, true_and, and_true, Bool.and_true, Bool.true_and, Bool.or_false, Bool.false_or, Bool.or_true, Bool.true_or, Bool.and_false, Bool.false_and, Bool.or_self, Bool.and_self, Nat.sub_self, Option.map_some, Option.map_none, Nat.reduceBEq, Bool.not_eq_true, beq_self_eq_true, Nat.reduceLeDiff, Nat.reduceLT, Nat.reduceEqDiff, List.filterMap_cons, List.filterMap_nil, $as,*])
open PySem PySem.Spec PyProof.Rows L2
section
/-! ## k34: the draws -/
theorem if_tt {c : Fx Bool} {f g : Fx Fl} {e e1 : En} {r : Option (Fl × En)} (h1 : c e = some (true, e1)) (h2 : f e1 = r) : sIf c f g e = r := by
  unfold sIf; rw [h1]; exact h2
theorem if_ff {c : Fx Bool} {f g : Fx Fl} {e e1 : En} {r : Option (Fl × En)} (h1 : c e = some (false, e1)) (h2 : g e1 = r) : sIf c f g e = r := by
  unfold sIf; rw [h1]; exact h2
def Rat (g : Fn) : Prop := ∀ (b : Nat) (ds : List D) (a : SS), Src (b + 16) ds → okS a = true → szS (2 ^ 111) a → ∃ (o : RR) (ds' : List D), g [.own ds, .val (eS a)] = some (.val (eR o), [ds']) ∧ okR o = true ∧ szR (2 ^ 114) o ∧ Src b ds'
theorem k_restAt_ok {t p i pa re : Fn} (T : Tk t) (P : Pk p) (I : Innz i) (A : Pa pa) (R : Rst 8 re) : Rat (k__law_rest_at t p i pa re) := by
  intro b ds a h ha hz
  rcases a with _ | ⟨l, u⟩
  · obtain ⟨o, d1, e1, oo, zo, s1⟩ := R (b + 8) ds h
    refine ⟨o, d1, ?_, oo, zo.mono (by omega), s1.mono (by omega)⟩
    simp! only [k__law_rest_at, k__law_rest_at_b, eS_n, e1]
  obtain ⟨v1, d1, e1, p1, q1, s1⟩ := T (b + 15) ds 5 h (by decide) (by decide)
  by_cases c1 : v1 = 0
  · obtain ⟨o, d2, e2, oo, zo, s2⟩ := R (b + 7) d1 s1
    refine ⟨o, d2, ?_, oo, zo.mono (by omega), s2.mono (by omega)⟩
    simp! only [k__law_rest_at, k__law_rest_at_b, eS_s, e1, c1, e2]
  obtain ⟨i0, d2, e2, hi, z1, z2, s2⟩ := I (b + 7) d1 l u s1 ha ⟨hz.1.mono (by omega), hz.2.mono (by omega)⟩
  obtain ⟨x, hx, d3, e3, s3⟩ := pick_tup P (b := b + 6) (xs := [.int 0, .int 0, .int 0, .int 1, .int (-1)]) s2 (by simp) (by simp)
  have hx2 : ∃ k : Int, x = .int k ∧ -1 ≤ k ∧ k ≤ 1 := by
    simp only [List.mem_cons, List.not_mem_nil, or_false] at hx
    rcases hx with rfl | rfl | rfl | rfl | rfl <;> exact ⟨_, rfl, by decide, by decide⟩
  obtain ⟨k, rfl, k1, k2⟩ := hx2
  obtain ⟨v4, d4, e4, p4, q4, s4⟩ := T (b + 5) d3 5 s3 (by decide) (by decide)
  rw [eS_s] at e2
  by_cases c4 : v4 = 0
  · refine ⟨some (i0 + k, 0), d4, ?_, ok_of (.inl rfl), ⟨by omega, by omega⟩, s4.mono (by omega)⟩
    simp! only [k__law_rest_at, k__law_rest_at_b, eS_s, eR_s, e1, c1, e2, e3, e4, c4]
  · obtain ⟨q, d5, e5, y1, y2, y3, s5⟩ := A (b + 1) d4 s4
    have b1 := Int.emod_nonneg (i0 + k) (b := q) (by omega)
    have b2 := Int.emod_lt_of_pos (i0 + k) y1
    refine ⟨some ((i0 + k) % q, q), d5, ?_, ok_mk y1 y2, ⟨by omega, by omega⟩, s5.mono (by omega)⟩
    simp! only [k__law_rest_at, k__law_rest_at_b, eS_s, eR_s, e1, c1, e2, e3, e4, c4, e5, q_modI y1]
def Nums (g : Fn) : Prop := ∀ (b : Nat) (ds : List D) (a : SS) (o : RR), Src (b + 40) ds → okS a = true → ∃ (ns : List Int) (ds' : List D), g [.own ds, .val (eS a), .val (eR o)] = some (.fresh (ns.map PyData.int), [ds']) ∧ Src b ds'
theorem app_ints {ns ms : List Int} : ns.map PyData.int ++ ms.map PyData.int = (ns ++ ms).map PyData.int := (List.map_append ..).symm
theorem k34_numbers_ok {nu i : Fn} (N : Nm 7 (2 ^ 110) nu) (I : Inn i) : Nums (k__law_numbers nu i) := by
  intro b ds a o h ha
  obtain ⟨v, d1, e1, -, -, s1⟩ := N (b + 33) ds h
  obtain ⟨es, hes, ea, -⟩ := eS_map a
  -- the ends
  obtain ⟨e, he, ns, s4, rfl, f4, hl⟩ := forL_cnt (g := gN 4) (b := k__law_numbers_l1)
    (I := fun m e => ∃ (ns : List Int) (s4 : Sl), e = [.par d1, .val (eS a), .val (eR o), .own (ns.map PyData.int), s4, .no] ∧ Fr s4 ∧ ns.length ≤ 2 + 3 * m) (es.map eE) 0 [.par d1, .val (eS a), .val (eR o), .own [.int v, .int 0], .no, .no]
    ⟨[v, 0], _, rfl, rfl, by simp⟩ (by
      rintro d hd m e hm ⟨ns, s4, rfl, f4, hl⟩
      rw [List.length_map] at hm
      obtain ⟨x, -, rfl⟩ := List.mem_map.mp hd
      rcases x with _ | x
      · refine ⟨[.par d1, .val (eS a), .val (eR o), .own (ns.map PyData.int), .val (eE none), .no], [.par d1, .val (eS a), .val (eR o), .own (ns.map PyData.int), .val (eE none), .no], ?_, ?_, ns, _, rfl, rfl, by omega⟩
        · simp! only [show isPar s4 = false from f4]
        · simp! only [k__law_numbers_l1, eE_n]
      · refine ⟨[.par d1, .val (eS a), .val (eR o), .own (ns.map PyData.int), .val (eE (some x)), .no], [.par d1, .val (eS a), .val (eR o), .own ((ns ++ [x - 1, x, x + 1]).map PyData.int), .val (eE (some x)), .no], ?_, ?_, ns ++ [x - 1, x, x + 1], _, rfl, rfl, by rw [List.length_append]; simp only [List.length_cons, List.length_nil]; omega⟩
        · simp! only [show isPar s4 = false from f4]
        · have hz : ns.length ≤ 16777213 := by omega
          rw [← app_ints]
          simp! only [k__law_numbers_l1, eE_s, List.length_map, hz])
  rw [List.length_map, Nat.zero_add] at hl
  -- the rest's
  obtain ⟨ns2, he2, hl2⟩ : ∃ ns2 : List Int, (sIf (eB (eOp gNe (eVar 2) (eTup dNil))) (sSet 3 (eAddR (eVar 3) (eFz (eLst (dCons (eItemN 2 (eC (.int 0))) (dCons (eOp gAdd (eItemN 2 (eC (.int 0))) (eItemN 2 (eC (.int 1)))) (dCons (eOp gSub (eItemN 2 (eC (.int 0))) (eItemN 2 (eC (.int 1)))) dNil))))))) sSkip)
      [.par d1, .val (eS a), .val (eR o), .own (ns.map PyData.int), s4, .no] = some (.nx, [.par d1, .val (eS a), .val (eR o), .own (ns2.map PyData.int), s4, .no]) ∧ ns2.length ≤ 11 := by
    rcases o with _ | ⟨r, m⟩
    · exact ⟨ns, by simp! only [eR_n], by omega⟩
    · refine ⟨ns ++ [r, r + m, r - m], ?_, by rw [List.length_append]; simp only [List.length_cons, List.length_nil]; omega⟩
      have hz : ns.length ≤ 16777213 := by omega
      rw [← app_ints]
      simp! only [eR_s, List.length_map, hz]
  -- the drawn
  obtain ⟨ns3, d3, s4', s5', he3, s3⟩ : ∃ (ns3 : List Int) (d3 : List D) (s4' s5' : Sl), (sIf (eB (eOp gNe (eVar 1) (eTup dNil))) (sFor (iRange1 (eC (.int 3))) (gN 5) (k__law_numbers_l2 i)) sSkip)
      [.par d1, .val (eS a), .val (eR o), .own (ns2.map PyData.int), s4, .no] = some (.nx, [.par d3, .val (eS a), .val (eR o), .own (ns3.map PyData.int), s4', s5']) ∧ Src b d3 := by
    rcases a with _ | ⟨l, u⟩
    · exact ⟨ns2, d1, s4, .no, by simp! only [eS_n], s1.mono (by omega)⟩
    · have hq : gNe (eS (some (l, u))) (.tuple []) = some (.bool true) := by
        have := q_neS (some (l, u)) none
        rw [eS_n] at this
        rw [this]
        rfl
      obtain ⟨e3, he3, ns3, d3, s5, rfl, f5, hl3, s3⟩ := forL_cnt (g := gN 5) (b := k__law_numbers_l2 i)
        (I := fun m e => ∃ (ns3 : List Int) (d3 : List D) (s5 : Sl), e = [.par d3, .val (eS (some (l, u))), .val (eR o), .own (ns3.map PyData.int), s4, s5] ∧ Fr s5 ∧ ns3.length ≤ 11 + m ∧ Src (b + 8 * (4 - m)) d3) (rangeD 0 (3 - 0 : Int).toNat) 0 [.par d1, .val (eS (some (l, u))), .val (eR o), .own (ns2.map PyData.int), s4, .no]
        ⟨ns2, d1, _, rfl, rfl, by omega, s1.mono (by omega)⟩ (by
          rintro d hd m e hm ⟨ns3, d3, s5, rfl, f5, hl3, s3⟩
          rw [show (rangeD 0 (3 - 0 : Int).toNat).length = 3 from rfl] at hm
          obtain ⟨j, d4, e4, -, s6⟩ := I (b + 8 * (4 - (m + 1))) d3 l u (by rw [show b + 8 * (4 - (m + 1)) + 8 = b + 8 * (4 - m) by omega]; exact s3) ha
          refine ⟨[.par d3, .val (eS (some (l, u))), .val (eR o), .own (ns3.map PyData.int), s4, .val d], [.par d4, .val (eS (some (l, u))), .val (eR o), .own ((ns3 ++ [j]).map PyData.int), s4, .val d], ?_, ?_, ns3 ++ [j], d4, _, rfl, rfl, by rw [List.length_append]; simp only [List.length_cons, List.length_nil]; omega, s6⟩
          · simp! only [show isPar s5 = false from f5]
          · have hz : ns3.length < 16777216 := by omega
            rw [← app_ints]
            simp! only [k__law_numbers_l2, e4, appAt, isOwn, List.length_map, hz])
      rw [show (rangeD 0 (3 - 0 : Int).toNat).length = 3 from rfl] at s3
      refine ⟨ns3, d3, s4, s5, ?_, s3.mono (by omega)⟩
      refine if_tt (e1 := [.par d1, .val (eS (some (l, u))), .val (eR o), .own (ns2.map PyData.int), s4, .no]) (by simp! only [hq]) ?_
      exact for_nx (e1 := [.par d1, .val (eS (some (l, u))), .val (eR o), .own (ns2.map PyData.int), s4, .no]) (by simp! only [x_C]) he3
  refine ⟨ns3, d3, ?_, s3⟩
  refine fn_rt (b := k__law_numbers_b nu i) (e := [.par d3, .val (eS a), .val (eR o), .no, s4', s5']) ?_ rfl
  unfold k__law_numbers_b
  refine seq_nx (e1 := [.par d1, .val (eS a), .val (eR o), .own [.int v, .int 0], .no, .no]) (by simp! only [e1]) ?_
  refine seq_nx (for_nx (e1 := [.par d1, .val (eS a), .val (eR o), .own [.int v, .int 0], .no, .no]) (ds := es.map eE) (by rw [ea]; simp! only [x_C]) he) ?_
  refine seq_nx he2 ?_
  refine seq_nx he3 ?_
  simp! only [x_C]
end
end Ev
namespace Ev
local macro_rules
  | `(tactic| simp! only [$as,*]) => `(tactic| simp only [↓x_var, ↓x_C, ↓x_op, ↓x_fz, ↓x_rV, ↓x_B, ↓x_chain, ↓x_tru, ↓x_notT, ↓x_andT, ↓x_orT, ↓x_and, ↓x_or, ↓x_not, ↓x_neg, ↓x_if, ↓x_aNil, ↓x_aVal, ↓x_aSlot, ↓x_aTmp, ↓x_aR, ↓x_call, ↓x_callK, ↓x_dNil, ↓x_dCons, ↓x_tup, ↓x_lst, ↓x_itemN, ↓x_ownItem, ↓x_lenN, ↓x_blt, ↓x_isi, ↓x_list, ↓x_rgL1, ↓x_rgL2, ↓x_iSeq, ↓x_iZip, ↓x_range1, ↓x_range2, ↓x_addR, ↓x_slice, ↓x_partN, ↓x_partS, ↓x_comp, ↓x_skip, ↓x_stuck, ↓x_break, ↓x_cont, ↓x_seq, ↓x_sIf, ↓x_sExpr, ↓x_ret, ↓x_retN, ↓x_move, ↓x_setRv, ↓x_setRf, ↓x_set, ↓x_gN, ↓x_gsNil, ↓x_gsCons, ↓x_gTup, ↓x_gIx, ↓x_setAt, ↓x_asg, ↓x_par, ↓x_sm0, ↓x_smV, ↓x_smF, ↓x_app, ↓x_for, ↓x_for0, ↓x_for1, ↓x_comp0, ↓x_comp1, ↓x_fn, ↓x_iEnum, ↓x_range3, ↓x_comp2, ↓x_compN0, ↓x_compN1, q_addI, q_addT, q_addL, q_subI, q_ltI, q_leI, q_gtI, q_geI, q_isN, q_isNotN, q_eqI, q_neI, q_eqB, q_eqT0, q_eqT1, q_neT0, q_neT1, q_eqL0, q_eqL1, q_neL0, q_neL1, q_int, q_abs, q_min2, q_max2, q_at0, q_at1, q_at2, q_at3, q_ix0, q_ix1, q_ix2, q_sz, q_iteS, q_iteT, q_iteR, q_iteV, q_iteBB, q_iteII, q_iteAnd, q_iteOr, q_iteNot, q_iteCon, q_pa0, q_pa1, q_pa2, q_pa3, q_ow0, q_ow1, q_ow2, q_ow3, q_c0, q_c1, q_c2, q_c3, q_c4, q_c5, q_c6, q_c7, q_c8, q_c9, q_c10, q_c11, q_c12, q_all0, q_all1, q_all2, q_all3, q_inN2, q_inN0, q_02a, q_02b, List.getElem?_cons_zero, List.getElem?_cons_succ, List.set_cons_zero, List.set_cons_succ, wipeE, initE, outsOf, toAv, slotsOf, putOuts, natNodup, List.map_cons, List.map_nil, List.cons_append, List.nil_append, List.append_nil, List.replicate, List.length_cons, List.length_nil, isNone, isiD, seqD, gItem, truD, zipOf, zipD, pick, List.contains_nil, List.contains_cons, eq_self, if_true, if_false, Bool.false_eq_true, Bool.true_eq_false, Bool.not_true, Bool.not_false, reduceIte, decide_true, decide_false, Nat.reduceAdd, Nat.reduceSub, Nat.zero_add, Nat.add_zero, and_self, true_and, and_true, Bool.and_true, Bool.true_and, Bool.or_false, Bool.false_or, Bool.or_true, Bool.true_or, Bool.and_false, Bool.false_and, Bool.or_self, Bool.and_self, Nat.sub_self, Option.map_some, Option.map_none, Nat.reduceBEq, Bool.not_eq_true, beq_self_eq_true, Nat.reduceLeDiff, Nat.reduceLT, Nat.reduceEqDiff, List.filterMap_cons, List.filterMap_nil, $as,*])
open PySem PySem.Spec PyProof.Rows L2
section
/-! ## k34: the checks -/
abbrev LSetF (f : Fn) : Prop := ∀ (a : SS) (b : RR), okR b = true → f [.val (eS a), .val (eR b)] = some (.val (eT (setT a b)), [])
abbrev TriedF (f : Fn) : Prop := ∀ (l u : Int) (b : RR), okR b = true → u - l < 60 → -(2 ^ 300) ≤ l → u ≤ 2 ^ 300 → f [.val (eS (some (some l, some u))), .val (eR b)] = some (.val (eT (setT (some (some l, some u)) b)), [])
theorem gd_eT (p : SS × RR) (k : Nat) : gd (k + 2) (eT p) = true := gd_tup (k + 1) _ (by simp) (all_cons (gd_eS k _) (all_cons (gd_eR k _) all_nil))
abbrev pairL1 (rh sh sa ha_ lh : Fn) : Fx Fl := k__law_pair_right_l1 rh sh sa ha_ lh
theorem k34_loop {rh sh sa ha_ lh : Fn} (h1 : LeftF rh) (h4 : ∀ (a : SS) (k : Int), okS a = true → sh [.val (eS a), .val (.int k)] = some (.val (.bool (hasS a k)), [])) (hs : SameOk 3 sa) (l1 : HasF ha_) (l2 : LeftF lh) {a : SS} {b : RR} (oa : okS a = true) (ob : okR b = true) (dl dd ds : D) (ns : List Int) :
    ∃ s6 s7 s8, forL (gN 6) (k__law_pair_right_l1 rh sh sa ha_ lh) (ns.map PyData.int) [.val (eS a), .val (eR b), .val dl, .val dd, .val (eT (setT a b)), .val ds, .no, .no, .no] = some (.nx, [.val (eS a), .val (eR b), .val dl, .val dd, .val (eT (setT a b)), .val ds, s6, s7, s8]) := by
  obtain ⟨oS, oR⟩ := set_ok oa ob
  obtain ⟨e, he, s6, s7, s8, rfl, -⟩ := forL_inv (g := gN 6) (b := k__law_pair_right_l1 rh sh sa ha_ lh)
    (I := fun e => ∃ s6 s7 s8, e = [.val (eS a), .val (eR b), .val dl, .val dd, .val (eT (setT a b)), .val ds, s6, s7, s8] ∧ (Fr s6 ∧ Fr s7 ∧ Fr s8)) (ns.map PyData.int) [.val (eS a), .val (eR b), .val dl, .val dd, .val (eT (setT a b)), .val ds, .no, .no, .no]
    ⟨_, _, _, rfl, rfl, rfl, rfl⟩ (by
      rintro d hd e ⟨s6, s7, s8, rfl, f6, f7, f8⟩
      obtain ⟨c, -, rfl⟩ := List.mem_map.mp hd
      have e1 := l1 a c
      have e2 := l2 b c ob
      have e3 := h4 _ c oS
      have e4 := h1 _ c oR
      have hh := set_has (a := a) ob c
      have sT := hs (.tuple [.bool true]) (gd_tup 2 _ (by simp) (all_cons (gd_bool _ _) all_nil))
      have sF := hs (.tuple [.bool false]) (gd_tup 2 _ (by simp) (all_cons (gd_bool _ _) all_nil))
      unfold eT
      generalize eS (setT a b).1 = dS at *
      generalize eR (setT a b).2 = dR at *
      generalize hasS (setT a b).1 c = x at *
      generalize hasR (setT a b).2 c = y at *
      generalize hasS a c = u at *
      generalize hasR b c = v at *
      generalize eS a = da at *
      generalize eR b = db at *
      refine ⟨[.val da, .val db, .val dl, .val dd, .val (.tuple [dS, dR]), .val ds, .val (.int c), s7, s8], [.val da, .val db, .val dl, .val dd, .val (.tuple [dS, dR]), .val ds, .val (.int c), .val (.bool (u && v)), .val (.tuple [.bool (x && y)])], by simp! only [show isPar s6 = false from f6], ?_, _, _, _, rfl, rfl, rfl, rfl⟩
      cases u <;> cases v <;> cases x <;> cases y <;> first | (cases hh; done) | simp! only [k__law_pair_right_l1, e1, e2, e3, e4, sT, sF, show isPar s7 = false from f7, show isPar s8 = false from f8])
  exact ⟨s6, s7, s8, he⟩
theorem k34_pair_ok {rh rw_ se sh sw sa ha_ lh ls tr : Fn} (h1 : LeftF rh) (h2 : WithRF rw_) (h3 : SetF se) (h4 : ∀ (a : SS) (k : Int), okS a = true → sh [.val (eS a), .val (.int k)] = some (.val (.bool (hasS a k)), []))
    (h5 : ∀ a b : SS, okS a = true → okS b = true → sw [.val (eS a), .val (eS b)] = some (.val (.bool (withinS a b)), [])) (hs : SameOk 3 sa) (l1 : HasF ha_) (l2 : LeftF lh) (l3 : LSetF ls) (l4 : TriedF tr)
    {a : SS} {b : RR} (oa : okS a = true) (ob : okR b = true) (za : szS (2 ^ 300) a) (ns : List Int) :
    k__law_pair_right rh rw_ se sh sw sa ha_ lh ls tr [.val (eS a), .val (eR b), .val (.list (ns.map PyData.int))] = some (.val (.bool true), []) := by
  obtain ⟨oS, oR⟩ := set_ok oa ob
  have t1 := h3 a b oa ob
  have t2 := h3 _ _ oS oR
  rw [set_set ob] at t2
  have due := l3 a b ob
  have w1 := h5 _ a oS oa
  have w2 := h2 _ b oR ob
  rw [(set_within ob).1] at w1
  rw [(set_within ob).2] at w2
  have s1 := hs (.tuple [eT (setT a b), eT (setT a b)]) (gd_tup 2 _ (by simp) (all_cons (gd_eT _ 0) (all_cons (gd_eT _ 0) all_nil)))
  have s2 := hs (eT (setT a b)) (gd_eT _ 1)
  have s3 := hs (.tuple [.bool true, .bool true]) (gd_tup 2 _ (by simp) (all_cons (gd_bool _ _) (all_cons (gd_bool _ _) all_nil)))
  obtain ⟨sv, hsv, hsh⟩ : ∃ sv : Bool, (sSet 5 (rV (eAnd (eOp gNe (eVar 0) (eTup dNil)) (eAnd (eOp gIsNot (eItemN 0 (eC (.int 0))) (eC .none)) (eAnd (eOp gIsNot (eItemN 0 (eC (.int 1))) (eC .none)) (eOp gLt (eOp gSub (eItemN 0 (eC (.int 1))) (eItemN 0 (eC (.int 0)))) (eC (.int 60))))))))
      [.val (eS a), .val (eR b), .val (.list (ns.map PyData.int)), .val (eT (setT a b)), .val (eT (setT a b)), .no, .no, .no, .no] = some (.nx, [.val (eS a), .val (eR b), .val (.list (ns.map PyData.int)), .val (eT (setT a b)), .val (eT (setT a b)), .val (.bool sv), .no, .no, .no]) ∧ (sv = true → ∃ l u, a = some (some l, some u) ∧ u - l < 60) := by
    generalize eT (setT a b) = dT
    rcases a with _ | ⟨l, u⟩
    · exact ⟨false, by simp! only [eS_n], fun z => by cases z⟩
    rcases l with _ | l
    · exact ⟨false, by simp! only [eS_s, eE_n], fun z => by cases z⟩
    rcases u with _ | u
    · exact ⟨false, by simp! only [eS_s, eE_n, eE_s], fun z => by cases z⟩
    · exact ⟨decide (u - l < 60), by simp! only [eS_s, eE_s], fun z => ⟨l, u, rfl, of_decide_eq_true z⟩⟩
  obtain ⟨s6, s7, s8, loop⟩ := k34_loop h1 h4 hs l1 l2 oa ob (.list (ns.map PyData.int)) (eT (setT a b)) (.bool sv) ns
  refine fn_rt (b := k__law_pair_right_b rh rw_ se sh sw sa ha_ lh ls tr) (e := [.val (eS a), .val (eR b), .val (.list (ns.map PyData.int)), .val (eT (setT a b)), .val (eT (setT a b)), .val (.bool sv), s6, s7, s8]) ?_ rfl
  unfold k__law_pair_right_b
  refine seq_nx (e1 := [.val (eS a), .val (eR b), .val (.list (ns.map PyData.int)), .val (eT (setT a b)), .no, .no, .no, .no, .no]) (by simp! only [due]) ?_
  refine seq_nx (e1 := [.val (eS a), .val (eR b), .val (.list (ns.map PyData.int)), .val (eT (setT a b)), .val (eT (setT a b)), .no, .no, .no, .no]) (by simp! only [t1]) ?_
  refine seq_nx (e1 := [.val (eS a), .val (eR b), .val (.list (ns.map PyData.int)), .val (eT (setT a b)), .val (eT (setT a b)), .no, .no, .no, .no]) (by simp! only [t1, s1]) ?_
  refine seq_nx (e1 := [.val (eS a), .val (eR b), .val (.list (ns.map PyData.int)), .val (eT (setT a b)), .val (eT (setT a b)), .no, .no, .no, .no]) (by
    unfold eT at t2 s2 ⊢
    simp! only [t2, s2]) ?_
  refine seq_nx hsv ?_
  refine seq_nx (e1 := [.val (eS a), .val (eR b), .val (.list (ns.map PyData.int)), .val (eT (setT a b)), .val (eT (setT a b)), .val (.bool sv), .no, .no, .no]) (by
    cases sv with
    | false => simp! only [x_C]
    | true =>
      obtain ⟨l, u, rfl, hlt⟩ := hsh rfl
      have t := l4 l u b ob hlt za.1.1 za.2.2
      simp! only [t, s2]) ?_
  refine seq_nx (for_nx (e1 := [.val (eS a), .val (eR b), .val (.list (ns.map PyData.int)), .val (eT (setT a b)), .val (eT (setT a b)), .val (.bool sv), .no, .no, .no]) (ds := ns.map PyData.int) (by simp! only [x_C]) loop) ?_
  unfold eT
  simp! only [w1, w2, s3]
abbrev PairF (f : Fn) : Prop := ∀ (a : SS) (b : RR) (ns : List Int), okS a = true → okR b = true → szS (2 ^ 300) a → f [.val (eS a), .val (eR b), .val (.list (ns.map PyData.int))] = some (.val (.bool true), [])
theorem k34_right_ok {st ne ra nu pr : Fn} (S : St 9 (2 ^ 111) st) (N : Nr 10 ne) (R : Rat ra) (U : Nums nu) (H : PairF pr) : Rg (k__law_right_v12 st ne ra nu pr) := by
  intro ds h
  obtain ⟨a, d1, e1, oa, za, s1⟩ := S 99999000 ds (h.mono (by decide))
  obtain ⟨o, d2, e2, oo, zo, s2⟩ := R 99998000 d1 a (s1.mono (by decide)) oa za
  obtain ⟨ns, d3, e3, s3⟩ := U 99997000 d2 a o (s2.mono (by decide)) oa
  have t1 := H a o ns oa oo (by
    rcases a with _ | ⟨l, u⟩
    · trivial
    · exact ⟨za.1.mono (by decide +kernel), za.2.mono (by decide +kernel)⟩)
  obtain ⟨es, hes, ea, we⟩ := eS_map a
  have zes := we _ za
  obtain ⟨fs, hfs, zfs, hstep⟩ : ∃ fs : List EE, fs.length ≤ 1 ∧ (∀ e ∈ fs, szE (2 ^ 114) e) ∧ ∀ (a2 : SS) (d4 : List D), ne [.own d3, .val (.tuple ((es ++ fs).map eE))] = some (.val (eS a2), [d4]) →
      (sSet 3 (eCall ne (aSlot 0 (aVal (eOp gAdd (eVar 1) (eFz (eSlice (eVar 2) (ePart none) (ePart (some (eC (.int 1))))))) aNil)))) [.par d3, .val (eS a), .val (eR o), .no] = some (.nx, [.par d4, .val (eS a), .val (eR o), .val (eS a2)]) := by
    rcases o with _ | ⟨r, m⟩
    · refine ⟨[], by simp, (fun _ h => by cases h), fun a2 d4 e4 => ?_⟩
      have hadd : gAdd (eS a) (.tuple []) = some (.tuple (es.map eE)) := by
        rw [ea, q_addT, if_pos (by rw [List.length_map, q_sz, List.length_nil]; omega), List.append_nil]
      rw [List.append_nil] at e4
      simp! only [eR_n, show cutD [] none (some 1) = [] from rfl, hadd, e4]
    · refine ⟨[some r], by simp, (fun e he => by rw [List.mem_singleton.mp he]; exact zo), fun a2 d4 e4 => ?_⟩
      have hadd : gAdd (eS a) (.tuple [.int r]) = some (.tuple ((es ++ [some r]).map eE)) := by
        rw [ea, q_addT, if_pos (by rw [List.length_map, q_sz, List.length_singleton]; omega), List.map_append]
        rfl
      simp! only [eR_s, show cutD [.int r, .int m] none (some 1) = [.int r] from rfl, hadd, e4]
  obtain ⟨a2, d4, e4, oa2, za2, s4⟩ := N 99996000 d3 (es ++ fs) (2 ^ 114) (s3.mono (by decide)) (fun e he => by
    rcases List.mem_append.mp he with he | he
    · exact (zes e he).mono (by decide)
    · exact zfs e he) (by decide) (by rw [List.length_append]; omega)
  obtain ⟨ns2, d5, e5, s5⟩ := U 99995000 d4 a2 o (s4.mono (by decide)) oa2
  have t2 := H a2 o ns2 oa2 oo (by
    rcases a2 with _ | ⟨l, u⟩
    · trivial
    · exact ⟨za2.1.mono (by decide +kernel), za2.2.mono (by decide +kernel)⟩)
  refine rg_of (n := 4) (b := k__law_right_v12_b st ne ra nu pr) ?_
  unfold k__law_right_v12_b
  refine runT_nx (e1 := [.par d1, .val (eS a), .no, .no]) (by simp! only [e1]) ?_
  refine runT_nx (e1 := [.par d2, .val (eS a), .val (eR o), .no]) (by simp! only [e2]) ?_
  refine runT_nx (e1 := [.par d3, .val (eS a), .val (eR o), .no]) (by simp! only [e3, t1]) ?_
  refine runT_nx (hstep a2 d4 e4) ?_
  exact ⟨[.par d5, .val (eS a), .val (eR o), .val (eS a2)], d5, by simp! only [e5, t2], rfl⟩
end
end Ev
namespace K34
open PySem PySem.Spec PyProof.Rows L2 Ev
def top (i : Nat) : Stmt := PySem.Challenge.pw_soundlooks_k34_whole_settled_stretches_a.main.body.getD i (.Pass ⟨0, 0, 0, 0⟩)
def r0 : Fd := ⟨"is_whole", ["value"], ["value"], [false], top 6⟩
def r1 : Fd := ⟨"are_wholes", ["value", "many"], ["value", "many", "each"], [false, false], top 7⟩
def r2 : Fd := ⟨"is_end", ["value"], ["value"], [false], top 10⟩
def r3 : Fd := ⟨"is_stretched", ["value"], ["value", "each"], [false], top 11⟩
def r4 : Fd := ⟨"is_held", ["stretch", "number"], ["stretch", "number"], [false, false], top 12⟩
def r5 : Fd := ⟨"is_low_within", ["low", "other"], ["low", "other"], [false, false], top 13⟩
def r6 : Fd := ⟨"is_high_within", ["high", "other"], ["high", "other"], [false, false], top 14⟩
def r7 : Fd := ⟨"is_stretch_within", ["stretch", "other"], ["stretch", "other"], [false, false], top 15⟩
def r8 : Fd := ⟨"met_stretch", ["stretch", "other"], ["stretch", "other", "low", "high"], [false, false], top 16⟩
def r9 : Fd := ⟨"is_rested", ["value"], ["value"], [false], top 20⟩
def r10 : Fd := ⟨"is_multiple", ["number", "many"], ["number", "many"], [false, false], top 21⟩
def r11 : Fd := ⟨"is_left", ["rest", "number"], ["rest", "number"], [false, false], top 22⟩
def r12 : Fd := ⟨"is_rest_within", ["rest", "other"], ["rest", "other"], [false, false], top 23⟩
def r13 : Fd := ⟨"first_from", ["low", "rest"], ["low", "rest"], [false, false], top 24⟩
def r14 : Fd := ⟨"last_up_to", ["high", "rest"], ["high", "rest"], [false, false], top 25⟩
def r15 : Fd := ⟨"settled_by", ["stretch", "rest"], ["stretch", "rest", "found", "low", "high"], [false, false], top 26⟩
def r16 : Fd := ⟨"check_stretch", ["value"], ["value"], [false], top 28⟩
def r17 : Fd := ⟨"check_stretches", ["stretch", "other"], ["stretch", "other"], [false, false], top 29⟩
def r18 : Fd := ⟨"check_rest", ["value"], ["value"], [false], top 30⟩
def r19 : Fd := ⟨"check_rests", ["rest", "other"], ["rest", "other"], [false, false], top 31⟩
def r20 : Fd := ⟨"check_whole", ["value"], ["value"], [false], top 32⟩
def r21 : Fd := ⟨"rest_holds", ["rest", "number"], ["rest", "number"], [false, false], top 34⟩
def r22 : Fd := ⟨"rest_within", ["rest", "other"], ["rest", "other"], [false, false], top 35⟩
def r23 : Fd := ⟨"settled", ["stretch", "rest"], ["stretch", "rest"], [false, false], top 36⟩
def r24 : Fd := ⟨"stretch_holds", ["stretch", "number"], ["stretch", "number"], [false, false], top 38⟩
def r25 : Fd := ⟨"stretch_within", ["stretch", "other"], ["stretch", "other"], [false, false], top 39⟩
def r26 : Fd := ⟨"_law_source", ["_law_script", "_law_turn"], ["_law_script", "_law_turn", "_law_mixed", "_law_cell", "_law_own"], [false, false], top 41⟩
def r27 : Fd := ⟨"_law_take", ["_law_source_here", "_law_many"], ["_law_source_here", "_law_many", "_law_mixed", "_law_figure"], [true, false], top 42⟩
def r28 : Fd := ⟨"_law_pick", ["_law_source_here", "_law_some"], ["_law_source_here", "_law_some"], [true, false], top 43⟩
def r29 : Fd := ⟨"_law_great", ["_law_source_here"], ["_law_source_here", "_law_got", "_law_turn"], [true], top 44⟩
def r30 : Fd := ⟨"_law_number", ["_law_source_here"], ["_law_source_here", "_law_branch", "_law_got"], [true], top 45⟩
def r31 : Fd := ⟨"_law_stretch", ["_law_source_here"], ["_law_source_here", "_law_branch", "_law_low"], [true], top 46⟩
def r32 : Fd := ⟨"_law_near", ["_law_source_here", "_law_ends"], ["_law_source_here", "_law_ends", "_law_lots", "_law_low", "_law_branch", "_law_high", "_law_end"], [true, false], top 47⟩
def r33 : Fd := ⟨"_law_in", ["_law_source_here", "_law_one"], ["_law_source_here", "_law_one", "_law_far", "_law_spot", "_law_low", "_law_high"], [true, false], top 48⟩
def r34 : Fd := ⟨"_law_part", ["_law_source_here"], ["_law_source_here", "_law_twos", "_law_threes"], [true], top 49⟩
def r35 : Fd := ⟨"_law_rest", ["_law_source_here"], ["_law_source_here", "_law_branch", "_law_by"], [true], top 50⟩
def r36 : Fd := ⟨"_law_is_whole", ["_law_thing"], ["_law_thing"], [false], top 51⟩
def r37 : Fd := ⟨"_law_same", ["_law_told", "_law_due"], ["_law_told", "_law_due", "_law_this", "_law_that"], [false, false], top 52⟩
def r38 : Fd := ⟨"_law_has", ["_law_one", "_law_count"], ["_law_one", "_law_count"], [false, false], top 53⟩
def r39 : Fd := ⟨"_law_rest_has", ["_law_one", "_law_count"], ["_law_one", "_law_count"], [false, false], top 54⟩
def r40 : Fd := ⟨"_law_common", ["_law_far", "_law_near_here"], ["_law_far", "_law_near_here"], [false, false], top 55⟩
def r41 : Fd := ⟨"_law_least", ["_law_lots"], ["_law_lots", "_law_by", "_law_count"], [false], top 56⟩
def r42 : Fd := ⟨"_law_rest_at", ["_law_source_here", "_law_one"], ["_law_source_here", "_law_one", "_law_spot", "_law_by"], [true, false], top 57⟩
def r43 : Fd := ⟨"_law_settled", ["_law_one", "_law_two"], ["_law_one", "_law_two", "_law_low", "_law_high"], [false, false], top 58⟩
def r44 : Fd := ⟨"_law_tried", ["_law_one", "_law_two"], ["_law_one", "_law_two", "_law_lots", "_law_count"], [false, false], top 59⟩
def r45 : Fd := ⟨"_law_numbers", ["_law_source_here", "_law_one", "_law_two"], ["_law_source_here", "_law_one", "_law_two", "_law_lots", "_law_end", "_law_turn"], [true, false, false], top 60⟩
def r46 : Fd := ⟨"_law_pair_right", ["_law_one", "_law_two", "_law_lots"], ["_law_one", "_law_two", "_law_lots", "_law_due", "_law_told", "_law_is_short", "_law_count", "_law_is_in", "_law_held"], [false, false, false], top 61⟩
def r47 : Fd := ⟨"_law_right", ["_law_source_here"], ["_law_source_here", "_law_one", "_law_two", "_law_three"], [true], top 62⟩
def r48 : Fd := ⟨"law", ["_law_script"], ["_law_script", "_law_turn"], [false], top 63⟩
def rs : List Fd := [r0, r1, r2, r3, r4, r5, r6, r7, r8, r9, r10, r11, r12, r13, r14, r15, r16, r17, r18, r19, r20, r21, r22, r23, r24, r25, r26, r27, r28, r29, r30, r31, r32, r33, r34, r35, r36, r37, r38, r39, r40, r41, r42, r43, r44, r45, r46, r47, r48]
def tb : Tab := ⟨fnsFrom 0 rs, [("EMPTY_stretchwork", (.tuple [])), ("EMPTY_restwork", (.tuple [])), ("GRAIN", (.int 20160))], [("dict", .dict), ("isinstance", .isinstance), ("int", .int), ("bool", .bool), ("tuple", .tuple), ("len", .len), ("all", .all), ("abs", .abs), ("divmod", .divmod), ("range", .range), ("min", .min), ("max", .max), ("zip", .zip)], [], [("settled", 0, ["rest", "stretch"], [1, 0])]⟩
abbrev wfl : Nat := 30000
abbrev fl : Nat := 60
abbrev run (n : Nat) : Nat → Fn := runF rs tb wfl fl n
abbrev F_is_whole (n : Nat) : Fn := run n 0
abbrev F_are_wholes (n : Nat) : Fn := run n 1
abbrev F_is_end (n : Nat) : Fn := run n 2
abbrev F_is_stretched (n : Nat) : Fn := run n 3
abbrev F_is_held (n : Nat) : Fn := run n 4
abbrev F_is_low_within (n : Nat) : Fn := run n 5
abbrev F_is_high_within (n : Nat) : Fn := run n 6
abbrev F_is_stretch_within (n : Nat) : Fn := run n 7
abbrev F_met_stretch (n : Nat) : Fn := run n 8
abbrev F_is_rested (n : Nat) : Fn := run n 9
abbrev F_is_multiple (n : Nat) : Fn := run n 10
abbrev F_is_left (n : Nat) : Fn := run n 11
abbrev F_is_rest_within (n : Nat) : Fn := run n 12
abbrev F_first_from (n : Nat) : Fn := run n 13
abbrev F_last_up_to (n : Nat) : Fn := run n 14
abbrev F_settled_by (n : Nat) : Fn := run n 15
abbrev F_check_stretch (n : Nat) : Fn := run n 16
abbrev F_check_stretches (n : Nat) : Fn := run n 17
abbrev F_check_rest (n : Nat) : Fn := run n 18
abbrev F_check_rests (n : Nat) : Fn := run n 19
abbrev F_check_whole (n : Nat) : Fn := run n 20
abbrev F_rest_holds (n : Nat) : Fn := run n 21
abbrev F_rest_within (n : Nat) : Fn := run n 22
abbrev F_settled (n : Nat) : Fn := run n 23
abbrev F_stretch_holds (n : Nat) : Fn := run n 24
abbrev F_stretch_within (n : Nat) : Fn := run n 25
abbrev F_law_source (n : Nat) : Fn := run n 26
abbrev F_law_take (n : Nat) : Fn := run n 27
abbrev F_law_pick (n : Nat) : Fn := run n 28
abbrev F_law_great (n : Nat) : Fn := run n 29
abbrev F_law_number (n : Nat) : Fn := run n 30
abbrev F_law_stretch (n : Nat) : Fn := run n 31
abbrev F_law_near (n : Nat) : Fn := run n 32
abbrev F_law_in (n : Nat) : Fn := run n 33
abbrev F_law_part (n : Nat) : Fn := run n 34
abbrev F_law_rest (n : Nat) : Fn := run n 35
abbrev F_law_is_whole (n : Nat) : Fn := run n 36
abbrev F_law_same (n : Nat) : Fn := run n 37
abbrev F_law_has (n : Nat) : Fn := run n 38
abbrev F_law_rest_has (n : Nat) : Fn := run n 39
abbrev F_law_common (n : Nat) : Fn := run n 40
abbrev F_law_least (n : Nat) : Fn := run n 41
abbrev F_law_rest_at (n : Nat) : Fn := run n 42
abbrev F_law_settled (n : Nat) : Fn := run n 43
abbrev F_law_tried (n : Nat) : Fn := run n 44
abbrev F_law_numbers (n : Nat) : Fn := run n 45
abbrev F_law_pair_right (n : Nat) : Fn := run n 46
abbrev F_law_right (n : Nat) : Fn := run n 47
abbrev F_law (n : Nat) : Fn := run n 48
theorem tb_ok : tabB rs tb = true := by kernel_rfl
theorem bd_ok : AllR BindOk rs := ⟨fun _ _ _ _ _ _ us hl => match us, hl with | [_], _ => rfl, fun _ _ _ _ _ _ us hl => match us, hl with | [_, _], _ => rfl, fun _ _ _ _ _ _ us hl => match us, hl with | [_], _ => rfl, fun _ _ _ _ _ _ us hl => match us, hl with | [_], _ => rfl, fun _ _ _ _ _ _ us hl => match us, hl with | [_, _], _ => rfl, fun _ _ _ _ _ _ us hl => match us, hl with | [_, _], _ => rfl, fun _ _ _ _ _ _ us hl => match us, hl with | [_, _], _ => rfl, fun _ _ _ _ _ _ us hl => match us, hl with | [_, _], _ => rfl, fun _ _ _ _ _ _ us hl => match us, hl with | [_, _], _ => rfl, fun _ _ _ _ _ _ us hl => match us, hl with | [_], _ => rfl, fun _ _ _ _ _ _ us hl => match us, hl with | [_, _], _ => rfl, fun _ _ _ _ _ _ us hl => match us, hl with | [_, _], _ => rfl, fun _ _ _ _ _ _ us hl => match us, hl with | [_, _], _ => rfl, fun _ _ _ _ _ _ us hl => match us, hl with | [_, _], _ => rfl, fun _ _ _ _ _ _ us hl => match us, hl with | [_, _], _ => rfl, fun _ _ _ _ _ _ us hl => match us, hl with | [_, _], _ => rfl, fun _ _ _ _ _ _ us hl => match us, hl with | [_], _ => rfl, fun _ _ _ _ _ _ us hl => match us, hl with | [_, _], _ => rfl, fun _ _ _ _ _ _ us hl => match us, hl with | [_], _ => rfl, fun _ _ _ _ _ _ us hl => match us, hl with | [_, _], _ => rfl, fun _ _ _ _ _ _ us hl => match us, hl with | [_], _ => rfl, fun _ _ _ _ _ _ us hl => match us, hl with | [_, _], _ => rfl, fun _ _ _ _ _ _ us hl => match us, hl with | [_, _], _ => rfl, fun _ _ _ _ _ _ us hl => match us, hl with | [_, _], _ => rfl, fun _ _ _ _ _ _ us hl => match us, hl with | [_, _], _ => rfl, fun _ _ _ _ _ _ us hl => match us, hl with | [_, _], _ => rfl, fun _ _ _ _ _ _ us hl => match us, hl with | [_, _], _ => rfl, fun _ _ _ _ _ _ us hl => match us, hl with | [_, _], _ => rfl, fun _ _ _ _ _ _ us hl => match us, hl with | [_, _], _ => rfl, fun _ _ _ _ _ _ us hl => match us, hl with | [_], _ => rfl, fun _ _ _ _ _ _ us hl => match us, hl with | [_], _ => rfl, fun _ _ _ _ _ _ us hl => match us, hl with | [_], _ => rfl, fun _ _ _ _ _ _ us hl => match us, hl with | [_, _], _ => rfl, fun _ _ _ _ _ _ us hl => match us, hl with | [_, _], _ => rfl, fun _ _ _ _ _ _ us hl => match us, hl with | [_], _ => rfl, fun _ _ _ _ _ _ us hl => match us, hl with | [_], _ => rfl, fun _ _ _ _ _ _ us hl => match us, hl with | [_], _ => rfl, fun _ _ _ _ _ _ us hl => match us, hl with | [_, _], _ => rfl, fun _ _ _ _ _ _ us hl => match us, hl with | [_, _], _ => rfl, fun _ _ _ _ _ _ us hl => match us, hl with | [_, _], _ => rfl, fun _ _ _ _ _ _ us hl => match us, hl with | [_, _], _ => rfl, fun _ _ _ _ _ _ us hl => match us, hl with | [_], _ => rfl, fun _ _ _ _ _ _ us hl => match us, hl with | [_, _], _ => rfl, fun _ _ _ _ _ _ us hl => match us, hl with | [_, _], _ => rfl, fun _ _ _ _ _ _ us hl => match us, hl with | [_, _], _ => rfl, fun _ _ _ _ _ _ us hl => match us, hl with | [_, _, _], _ => rfl, fun _ _ _ _ _ _ us hl => match us, hl with | [_, _, _], _ => rfl, fun _ _ _ _ _ _ us hl => match us, hl with | [_], _ => rfl, fun _ _ _ _ _ _ us hl => match us, hl with | [_], _ => rfl, trivial⟩
theorem only {x : Str} (i : Nat) (h : (List.range rs.length).all (fun j => match rs[j]? with | some r => decide (r.x = x → j = i) | none => true) = true) (j : Nat) (r : Fd) (e : rs[j]? = some r) (hx : r.x = x) : j = i := by
  have hj : j < rs.length := (List.getElem?_eq_some_iff.mp e).1
  have q := List.all_eq_true.mp h j (List.mem_range.mpr hj)
  rw [e] at q
  exact of_decide_eq_true q hx
theorem kw_ok : AllR (KwOk rs) tb.kws := ⟨⟨23, r23, rfl, rfl, only 23 (by decide +kernel), rfl, by decide, fun _ _ _ _ _ _ us ws h1 h2 => (match us, ws, h1, h2 with | [], [_, _], _, _ => rfl), by decide⟩, trivial⟩
/-- is_whole -/
theorem d0 (C : Nat → Fn) : dSs (den tb r0.N C wfl fl) (defScope r0.st) (defBody r0.st) = k_is_whole_b := by kernel_rfl
theorem u_is_whole (n : Nat) : run (n + 1) 0 = k_is_whole := congrArg (callFn 1) (d0 (run n))
/-- are_wholes -/
theorem d1 (C : Nat → Fn) : dSs (den tb r1.N C wfl fl) (defScope r1.st) (defBody r1.st) = k_are_wholes_b (C 0) := by kernel_rfl
theorem u_are_wholes (n : Nat) : run (n + 1) 1 = k_are_wholes (run n 0) := congrArg (callFn 3) (d1 (run n))
/-- is_end -/
theorem d2 (C : Nat → Fn) : dSs (den tb r2.N C wfl fl) (defScope r2.st) (defBody r2.st) = k_is_end_b (C 0) := by kernel_rfl
theorem u_is_end (n : Nat) : run (n + 1) 2 = k_is_end (run n 0) := congrArg (callFn 1) (d2 (run n))
/-- is_stretched -/
theorem d3 (C : Nat → Fn) : dSs (den tb r3.N C wfl fl) (defScope r3.st) (defBody r3.st) = k_is_stretched_b (C 2) := by kernel_rfl
theorem u_is_stretched (n : Nat) : run (n + 1) 3 = k_is_stretched (run n 2) := congrArg (callFn 2) (d3 (run n))
/-- is_held -/
theorem d4 (C : Nat → Fn) : dSs (den tb r4.N C wfl fl) (defScope r4.st) (defBody r4.st) = k_is_held_b := by kernel_rfl
theorem u_is_held (n : Nat) : run (n + 1) 4 = k_is_held := congrArg (callFn 2) (d4 (run n))
/-- is_low_within -/
theorem d5 (C : Nat → Fn) : dSs (den tb r5.N C wfl fl) (defScope r5.st) (defBody r5.st) = k_is_low_within_b := by kernel_rfl
theorem u_is_low_within (n : Nat) : run (n + 1) 5 = k_is_low_within := congrArg (callFn 2) (d5 (run n))
/-- is_high_within -/
theorem d6 (C : Nat → Fn) : dSs (den tb r6.N C wfl fl) (defScope r6.st) (defBody r6.st) = k_is_high_within_b := by kernel_rfl
theorem u_is_high_within (n : Nat) : run (n + 1) 6 = k_is_high_within := congrArg (callFn 2) (d6 (run n))
/-- is_stretch_within -/
theorem d7 (C : Nat → Fn) : dSs (den tb r7.N C wfl fl) (defScope r7.st) (defBody r7.st) = k_is_stretch_within_b (C 5) (C 6) := by kernel_rfl
theorem u_is_stretch_within (n : Nat) : run (n + 1) 7 = k_is_stretch_within (run n 5) (run n 6) := congrArg (callFn 2) (d7 (run n))
/-- met_stretch -/
theorem d8 (C : Nat → Fn) : dSs (den tb r8.N C wfl fl) (defScope r8.st) (defBody r8.st) = k_met_stretch_b (C 5) (C 6) := by kernel_rfl
theorem u_met_stretch (n : Nat) : run (n + 1) 8 = k_met_stretch (run n 5) (run n 6) := congrArg (callFn 4) (d8 (run n))
/-- is_rested -/
theorem d9 (C : Nat → Fn) : dSs (den tb r9.N C wfl fl) (defScope r9.st) (defBody r9.st) = k_is_rested_b (C 1) := by kernel_rfl
theorem u_is_rested (n : Nat) : run (n + 1) 9 = k_is_rested (run n 1) := congrArg (callFn 1) (d9 (run n))
/-- is_multiple -/
theorem d10 (C : Nat → Fn) : dSs (den tb r10.N C wfl fl) (defScope r10.st) (defBody r10.st) = k_is_multiple_b := by kernel_rfl
theorem u_is_multiple (n : Nat) : run (n + 1) 10 = k_is_multiple := congrArg (callFn 2) (d10 (run n))
/-- is_left -/
theorem d11 (C : Nat → Fn) : dSs (den tb r11.N C wfl fl) (defScope r11.st) (defBody r11.st) = k_is_left_b (C 10) := by kernel_rfl
theorem u_is_left (n : Nat) : run (n + 1) 11 = k_is_left (run n 10) := congrArg (callFn 2) (d11 (run n))
/-- is_rest_within -/
theorem d12 (C : Nat → Fn) : dSs (den tb r12.N C wfl fl) (defScope r12.st) (defBody r12.st) = k_is_rest_within_b (C 10) (C 11) := by kernel_rfl
theorem u_is_rest_within (n : Nat) : run (n + 1) 12 = k_is_rest_within (run n 10) (run n 11) := congrArg (callFn 2) (d12 (run n))
/-- first_from -/
theorem d13 (C : Nat → Fn) : dSs (den tb r13.N C wfl fl) (defScope r13.st) (defBody r13.st) = k_first_from_b := by kernel_rfl
theorem u_first_from (n : Nat) : run (n + 1) 13 = k_first_from := congrArg (callFn 2) (d13 (run n))
/-- last_up_to -/
theorem d14 (C : Nat → Fn) : dSs (den tb r14.N C wfl fl) (defScope r14.st) (defBody r14.st) = k_last_up_to_b := by kernel_rfl
theorem u_last_up_to (n : Nat) : run (n + 1) 14 = k_last_up_to := congrArg (callFn 2) (d14 (run n))
/-- settled_by -/
theorem d15 (C : Nat → Fn) : dSs (den tb r15.N C wfl fl) (defScope r15.st) (defBody r15.st) = k_settled_by_b (C 8) (C 13) (C 14) := by kernel_rfl
theorem u_settled_by (n : Nat) : run (n + 1) 15 = k_settled_by (run n 8) (run n 13) (run n 14) := congrArg (callFn 5) (d15 (run n))
/-- check_stretch -/
theorem d16 (C : Nat → Fn) : dSs (den tb r16.N C wfl fl) (defScope r16.st) (defBody r16.st) = k_check_stretch_b (C 3) := by kernel_rfl
theorem u_check_stretch (n : Nat) : run (n + 1) 16 = k_check_stretch (run n 3) := congrArg (callFn 1) (d16 (run n))
/-- check_stretches -/
theorem d17 (C : Nat → Fn) : dSs (den tb r17.N C wfl fl) (defScope r17.st) (defBody r17.st) = k_check_stretches_b (C 16) := by kernel_rfl
theorem u_check_stretches (n : Nat) : run (n + 1) 17 = k_check_stretches (run n 16) := congrArg (callFn 2) (d17 (run n))
/-- check_rest -/
theorem d18 (C : Nat → Fn) : dSs (den tb r18.N C wfl fl) (defScope r18.st) (defBody r18.st) = k_check_rest_b (C 9) := by kernel_rfl
theorem u_check_rest (n : Nat) : run (n + 1) 18 = k_check_rest (run n 9) := congrArg (callFn 1) (d18 (run n))
/-- check_rests -/
theorem d19 (C : Nat → Fn) : dSs (den tb r19.N C wfl fl) (defScope r19.st) (defBody r19.st) = k_check_rests_b (C 18) := by kernel_rfl
theorem u_check_rests (n : Nat) : run (n + 1) 19 = k_check_rests (run n 18) := congrArg (callFn 2) (d19 (run n))
/-- check_whole -/
theorem d20 (C : Nat → Fn) : dSs (den tb r20.N C wfl fl) (defScope r20.st) (defBody r20.st) = k_check_whole_b (C 0) := by kernel_rfl
theorem u_check_whole (n : Nat) : run (n + 1) 20 = k_check_whole (run n 0) := congrArg (callFn 1) (d20 (run n))
/-- rest_holds -/
theorem d21 (C : Nat → Fn) : dSs (den tb r21.N C wfl fl) (defScope r21.st) (defBody r21.st) = k_rest_holds_b (C 11) (C 18) (C 20) := by kernel_rfl
theorem u_rest_holds (n : Nat) : run (n + 1) 21 = k_rest_holds (run n 11) (run n 18) (run n 20) := congrArg (callFn 2) (d21 (run n))
/-- rest_within -/
theorem d22 (C : Nat → Fn) : dSs (den tb r22.N C wfl fl) (defScope r22.st) (defBody r22.st) = k_rest_within_b (C 12) (C 19) := by kernel_rfl
theorem u_rest_within (n : Nat) : run (n + 1) 22 = k_rest_within (run n 12) (run n 19) := congrArg (callFn 2) (d22 (run n))
/-- settled -/
theorem d23 (C : Nat → Fn) : dSs (den tb r23.N C wfl fl) (defScope r23.st) (defBody r23.st) = k_settled_b (C 15) (C 16) (C 18) := by kernel_rfl
theorem u_settled (n : Nat) : run (n + 1) 23 = k_settled (run n 15) (run n 16) (run n 18) := congrArg (callFn 2) (d23 (run n))
/-- stretch_holds -/
theorem d24 (C : Nat → Fn) : dSs (den tb r24.N C wfl fl) (defScope r24.st) (defBody r24.st) = k_stretch_holds_b (C 4) (C 16) (C 20) := by kernel_rfl
theorem u_stretch_holds (n : Nat) : run (n + 1) 24 = k_stretch_holds (run n 4) (run n 16) (run n 20) := congrArg (callFn 2) (d24 (run n))
/-- stretch_within -/
theorem d25 (C : Nat → Fn) : dSs (den tb r25.N C wfl fl) (defScope r25.st) (defBody r25.st) = k_stretch_within_b (C 7) (C 17) := by kernel_rfl
theorem u_stretch_within (n : Nat) : run (n + 1) 25 = k_stretch_within (run n 7) (run n 17) := congrArg (callFn 2) (d25 (run n))
/-- _law_source -/
theorem d26 (C : Nat → Fn) : dSs (den tb r26.N C wfl fl) (defScope r26.st) (defBody r26.st) = sourceC 610391 9176 := by kernel_rfl
theorem u_law_source (n : Nat) : run (n + 1) 26 = callFn 5 (sourceC 610391 9176) := congrArg (callFn 5) (d26 (run n))
/-- _law_take -/
theorem d27 (C : Nat → Fn) : dSs (den tb r27.N C wfl fl) (defScope r27.st) (defBody r27.st) = k__law_take_b := by kernel_rfl
theorem u_law_take (n : Nat) : run (n + 1) 27 = k__law_take := congrArg (callFn 4) (d27 (run n))
/-- _law_pick -/
theorem d28 (C : Nat → Fn) : dSs (den tb r28.N C wfl fl) (defScope r28.st) (defBody r28.st) = k__law_pick_b (C 27) := by kernel_rfl
theorem u_law_pick (n : Nat) : run (n + 1) 28 = k__law_pick (run n 27) := congrArg (callFn 2) (d28 (run n))
/-- _law_great -/
theorem d29 (C : Nat → Fn) : dSs (den tb r29.N C wfl fl) (defScope r29.st) (defBody r29.st) = k__law_great_b (C 27) := by kernel_rfl
theorem u_law_great (n : Nat) : run (n + 1) 29 = k__law_great (run n 27) := congrArg (callFn 3) (d29 (run n))
/-- _law_number -/
theorem d30 (C : Nat → Fn) : dSs (den tb r30.N C wfl fl) (defScope r30.st) (defBody r30.st) = k__law_number_b (C 27) (C 29) := by kernel_rfl
theorem u_law_number (n : Nat) : run (n + 1) 30 = k__law_number (run n 27) (run n 29) := congrArg (callFn 3) (d30 (run n))
/-- _law_stretch -/
theorem d31 (C : Nat → Fn) : dSs (den tb r31.N C wfl fl) (defScope r31.st) (defBody r31.st) = k__law_stretch_b (C 27) (C 30) := by kernel_rfl
theorem u_law_stretch (n : Nat) : run (n + 1) 31 = k__law_stretch (run n 27) (run n 30) := congrArg (callFn 3) (d31 (run n))
/-- _law_near -/
theorem d32 (C : Nat → Fn) : dSs (den tb r32.N C wfl fl) (defScope r32.st) (defBody r32.st) = k__law_near_b (C 27) (C 28) (C 31) := by kernel_rfl
theorem u_law_near (n : Nat) : run (n + 1) 32 = k__law_near (run n 27) (run n 28) (run n 31) := congrArg (callFn 7) (d32 (run n))
/-- _law_in -/
theorem d33 (C : Nat → Fn) : dSs (den tb r33.N C wfl fl) (defScope r33.st) (defBody r33.st) = k__law_in_b (C 27) (C 28) (C 29) (C 30) := by kernel_rfl
theorem u_law_in (n : Nat) : run (n + 1) 33 = k__law_in (run n 27) (run n 28) (run n 29) (run n 30) := congrArg (callFn 6) (d33 (run n))
/-- _law_part -/
theorem d34 (C : Nat → Fn) : dSs (den tb r34.N C wfl fl) (defScope r34.st) (defBody r34.st) = k__law_part_b (C 28) := by kernel_rfl
theorem u_law_part (n : Nat) : run (n + 1) 34 = k__law_part (run n 28) := congrArg (callFn 3) (d34 (run n))
/-- _law_rest -/
theorem d35 (C : Nat → Fn) : dSs (den tb r35.N C wfl fl) (defScope r35.st) (defBody r35.st) = k__law_rest_b (C 27) (C 30) (C 34) := by kernel_rfl
theorem u_law_rest (n : Nat) : run (n + 1) 35 = k__law_rest (run n 27) (run n 30) (run n 34) := congrArg (callFn 3) (d35 (run n))
/-- _law_is_whole -/
theorem d36 (C : Nat → Fn) : dSs (den tb r36.N C wfl fl) (defScope r36.st) (defBody r36.st) = k__law_is_whole_b := by kernel_rfl
theorem u_law_is_whole (n : Nat) : run (n + 1) 36 = k__law_is_whole := congrArg (callFn 1) (d36 (run n))
/-- _law_same -/
theorem d37 (C : Nat → Fn) : dSs (den tb r37.N C wfl fl) (defScope r37.st) (defBody r37.st) = k__law_same_b (C 36) (C 37) := by kernel_rfl
theorem u_law_same (n : Nat) : run (n + 1) 37 = k__law_same (run n 36) (run n 37) := congrArg (callFn 4) (d37 (run n))
/-- _law_has -/
theorem d38 (C : Nat → Fn) : dSs (den tb r38.N C wfl fl) (defScope r38.st) (defBody r38.st) = k__law_has_b := by kernel_rfl
theorem u_law_has (n : Nat) : run (n + 1) 38 = k__law_has := congrArg (callFn 2) (d38 (run n))
/-- _law_rest_has -/
theorem d39 (C : Nat → Fn) : dSs (den tb r39.N C wfl fl) (defScope r39.st) (defBody r39.st) = k__law_rest_has_b := by kernel_rfl
theorem u_law_rest_has (n : Nat) : run (n + 1) 39 = k__law_rest_has := congrArg (callFn 2) (d39 (run n))
/-- _law_common -/
theorem d40_w (w : Nat) (C : Nat → Fn) : dSs (den tb r40.N C w fl) (defScope r40.st) (defBody r40.st) = k__law_common_b_w w := by kernel_rfl
theorem d40 (C : Nat → Fn) : dSs (den tb r40.N C wfl fl) (defScope r40.st) (defBody r40.st) = k__law_common_b := d40_w wfl C
theorem u_law_common (n : Nat) : run (n + 1) 40 = k__law_common := congrArg (callFn 2) (d40 (run n))
/-- _law_least -/
theorem d41 (C : Nat → Fn) : dSs (den tb r41.N C wfl fl) (defScope r41.st) (defBody r41.st) = k__law_least_b (C 40) := by kernel_rfl
theorem u_law_least (n : Nat) : run (n + 1) 41 = k__law_least (run n 40) := congrArg (callFn 3) (d41 (run n))
/-- _law_rest_at -/
theorem d42 (C : Nat → Fn) : dSs (den tb r42.N C wfl fl) (defScope r42.st) (defBody r42.st) = k__law_rest_at_b (C 27) (C 28) (C 33) (C 34) (C 35) := by kernel_rfl
theorem u_law_rest_at (n : Nat) : run (n + 1) 42 = k__law_rest_at (run n 27) (run n 28) (run n 33) (run n 34) (run n 35) := congrArg (callFn 4) (d42 (run n))
/-- _law_settled -/
theorem d43 (C : Nat → Fn) : dSs (den tb r43.N C wfl fl) (defScope r43.st) (defBody r43.st) = k__law_settled_b (C 38) := by kernel_rfl
theorem u_law_settled (n : Nat) : run (n + 1) 43 = k__law_settled (run n 38) := congrArg (callFn 4) (d43 (run n))
/-- _law_tried -/
theorem d44 (C : Nat → Fn) : dSs (den tb r44.N C wfl fl) (defScope r44.st) (defBody r44.st) = k__law_tried_v5_b (C 39) (C 41) := by kernel_rfl
theorem u_law_tried (n : Nat) : run (n + 1) 44 = k__law_tried_v5 (run n 39) (run n 41) := congrArg (callFn 4) (d44 (run n))
/-- _law_numbers -/
theorem d45 (C : Nat → Fn) : dSs (den tb r45.N C wfl fl) (defScope r45.st) (defBody r45.st) = k__law_numbers_b (C 30) (C 33) := by kernel_rfl
theorem u_law_numbers (n : Nat) : run (n + 1) 45 = k__law_numbers (run n 30) (run n 33) := congrArg (callFn 6) (d45 (run n))
/-- _law_pair_right -/
theorem d46 (C : Nat → Fn) : dSs (den tb r46.N C wfl fl) (defScope r46.st) (defBody r46.st) = k__law_pair_right_b (C 21) (C 22) (C 23) (C 24) (C 25) (C 37) (C 38) (C 39) (C 43) (C 44) := by kernel_rfl
theorem u_law_pair_right (n : Nat) : run (n + 1) 46 = k__law_pair_right (run n 21) (run n 22) (run n 23) (run n 24) (run n 25) (run n 37) (run n 38) (run n 39) (run n 43) (run n 44) := congrArg (callFn 9) (d46 (run n))
/-- _law_right -/
theorem d47 (C : Nat → Fn) : dSs (den tb r47.N C wfl fl) (defScope r47.st) (defBody r47.st) = k__law_right_v12_b (C 31) (C 32) (C 42) (C 45) (C 46) := by kernel_rfl
theorem u_law_right (n : Nat) : run (n + 1) 47 = k__law_right_v12 (run n 31) (run n 32) (run n 42) (run n 45) (run n 46) := congrArg (callFn 4) (d47 (run n))
/-- law -/
def c48 (C : Nat → Fn) : Fx Fl := (sRet (rV (eBlt gAll (dCons (eFz (eComp (iRange1 (eBlt gMax (dCons (eC (.int 2)) (dCons (eBlt gMin (dCons (eLenN 0) (dCons (eC (.int 5)) dNil))) dNil)))) (gN 1) (fun env => some (true, env)) (eFz (eCall (C 47) (aTmp (eCall (C 26) (aVal (eVar 0) (aVal (eVar 1) aNil))) aNil))) [1])) dNil))))
theorem d48 (C : Nat → Fn) : dSs (den tb r48.N C wfl fl) (defScope r48.st) (defBody r48.st) = c48 C := by kernel_rfl
theorem u_48 (n : Nat) : run (n + 1) 48 = callFn 2 (c48 (run n)) := congrArg (callFn 2) (d48 (run n))
def loose0 : List PySem.Str := ["LookError", "InvalidNumber", "InvalidStretch", "InvalidRest", "is_whole", "are_wholes", "EMPTY_stretchwork", "is_end", "is_stretched", "is_held", "is_low_within", "is_high_within", "is_stretch_within", "met_stretch", "GRAIN", "EMPTY_restwork", "is_rested", "is_multiple", "is_left", "is_rest_within"]
def loose1 : List PySem.Str := ["first_from", "last_up_to", "settled_by", "check_stretch", "check_stretches", "check_rest", "check_rests", "check_whole", "rest_holds", "rest_within", "settled", "stretch_holds", "stretch_within", "_law_source", "_law_take", "_law_pick", "_law_great", "_law_number", "_law_stretch", "_law_near"]
def loose2 : List PySem.Str := ["_law_in", "_law_part", "_law_rest", "_law_is_whole", "_law_same", "_law_has", "_law_rest_has", "_law_common", "_law_least", "_law_rest_at", "_law_settled", "_law_tried", "_law_numbers", "_law_pair_right", "_law_right"]
def loose : List PySem.Str := loose0 ++ loose1 ++ loose2
abbrev R : PySem.W.OpenRow := PySem.W.OpenLaw.row PySem.Challenge.rw_soundlooks_k34_whole_settled_stretches_a
abbrev hk : PySem.W.Hook := He.hookX 4 (faOf rs tb) (fnOf rs) [] [] (exB tb)
def ob (s : PySem.W.SharedT) : He.AlX := He.obsX 4 (faOf rs tb) (fnOf rs) [] [] (exB tb) (HandSHeadRun.getT s)
theorem ob_eq (s : PySem.W.SharedT) : ob s = hk.obs s.abs := He.obsX_eq (HandSHeadRun.getT_eq s)
theorem runs (w : World) : HandSHeadRun.RunEq R (PySem.W.view R.prog [63]) hk ob 9000 loose w := by
  intro os
  kernel_rfl
theorem g__law_take (zz : Nat) : (Tk) (F_law_take (zz + 1)) := tr (P := Tk) (u_law_take (zz)) (k_take_ok)
theorem g__law_great (zz : Nat) : (Gp) (F_law_great (zz + 2)) := tr (P := Gp) (u_law_great (zz + 1)) (k_great_pos (g__law_take zz))
theorem g__law_number (zz : Nat) : (Nm 7 (2 ^ 110)) (F_law_number (zz + 3)) := tr (P := Nm 7 (2 ^ 110)) (u_law_number (zz + 2)) (k_number_ok (g__law_take (zz + 1)) (gp_nm (g__law_great zz)))
theorem g__law_stretch (zz : Nat) : (St 9 (2 ^ 111)) (F_law_stretch (zz + 4)) := tr (P := St 9 (2 ^ 111)) (u_law_stretch (zz + 3)) (k_stretch_ok (g__law_take (zz + 2)) (g__law_number zz))
theorem g__law_pick (zz : Nat) : (Pk) (F_law_pick (zz + 2)) := tr (P := Pk) (u_law_pick (zz + 1)) (k_pick_ok (g__law_take zz))
theorem g__law_near (zz : Nat) : (Nr 10) (F_law_near (zz + 5)) := tr (P := Nr 10) (u_law_near (zz + 4)) (k_near_ok (g__law_take (zz + 3)) (g__law_pick (zz + 2)) (g__law_stretch zz))
theorem g__law_in (zz : Nat) : (fun f => Inn f ∧ Innz f) (F_law_in (zz + 4)) := tr (P := fun f => Inn f ∧ Innz f) (u_law_in (zz + 3)) (⟨k_in_ok (g__law_take (zz + 2)) (g__law_pick (zz + 1)) (g__law_great (zz + 1)) (g__law_number zz), k_inz_ok (g__law_take (zz + 2)) (g__law_pick (zz + 1)) (g__law_great (zz + 1)) (g__law_number zz)⟩)
theorem g__law_part (zz : Nat) : (Pa) (F_law_part (zz + 3)) := tr (P := Pa) (u_law_part (zz + 2)) (k_part_ok (g__law_pick zz))
theorem g__law_rest (zz : Nat) : (Rst 8) (F_law_rest (zz + 4)) := tr (P := Rst 8) (u_law_rest (zz + 3)) (k_rest_ok (g__law_take (zz + 2)) (g__law_number zz) (g__law_part zz))
theorem g__law_rest_at (zz : Nat) : (Ev.Rat) (F_law_rest_at (zz + 5)) := tr (P := Ev.Rat) (u_law_rest_at (zz + 4)) (k_restAt_ok (g__law_take (zz + 3)) (g__law_pick (zz + 2)) ((g__law_in zz)).2 (g__law_part (zz + 1)) (g__law_rest zz))
theorem g__law_numbers (zz : Nat) : (Nums) (F_law_numbers (zz + 5)) := tr (P := Nums) (u_law_numbers (zz + 4)) (k34_numbers_ok (g__law_number (zz + 1)) ((g__law_in zz)).1)
theorem g_is_multiple (zz : Nat) : (MulF) (F_is_multiple (zz + 1)) := tr (P := MulF) (u_is_multiple (zz)) (fun x m h => k_multiple_ok x h)
theorem g_is_left (zz : Nat) : (LeftF) (F_is_left (zz + 2)) := tr (P := LeftF) (u_is_left (zz + 1)) (k_left_ok' (g_is_multiple zz))
theorem g_is_whole (zz : Nat) : (fun f => ∀ i : Int, f [.val (.int i)] = some (.val (.bool true), [])) (F_is_whole (zz + 1)) := tr (P := fun f => ∀ i : Int, f [.val (.int i)] = some (.val (.bool true), [])) (u_is_whole (zz)) (k_whole_ok)
theorem g_are_wholes (zz : Nat) : (fun f => ∀ r m : Int, f [.val (.tuple [.int r, .int m]), .val (.int 2)] = some (.val (.bool true), [])) (F_are_wholes (zz + 2)) := tr (P := fun f => ∀ r m : Int, f [.val (.tuple [.int r, .int m]), .val (.int 2)] = some (.val (.bool true), [])) (u_are_wholes (zz + 1)) (k_wholes2_ok (g_is_whole zz))
theorem g_is_rested (zz : Nat) : (fun f => ∀ a : RR, okR a = true → f [.val (eR a)] = some (.val (.bool true), [])) (F_is_rested (zz + 3)) := tr (P := fun f => ∀ a : RR, okR a = true → f [.val (eR a)] = some (.val (.bool true), [])) (u_is_rested (zz + 2)) (fun a h => k_rested_ok (g_are_wholes zz) h)
theorem g_check_rest (zz : Nat) : (ChkR) (F_check_rest (zz + 4)) := tr (P := ChkR) (u_check_rest (zz + 3)) (k_rcheck_ok (g_is_rested zz))
theorem g_check_whole (zz : Nat) : (fun f => ∀ i : Int, f [.val (.int i)] = some (.val .none, [])) (F_check_whole (zz + 2)) := tr (P := fun f => ∀ i : Int, f [.val (.int i)] = some (.val .none, [])) (u_check_whole (zz + 1)) (k_check_whole_ok (g_is_whole zz))
theorem g_rest_holds (zz : Nat) : (LeftF) (F_rest_holds (zz + 5)) := tr (P := LeftF) (u_rest_holds (zz + 4)) (k_rholds_ok (g_is_left (zz + 2)) (g_check_rest zz) (g_check_whole (zz + 2)))
theorem g_is_rest_within (zz : Nat) : (WithRF) (F_is_rest_within (zz + 3)) := tr (P := WithRF) (u_is_rest_within (zz + 2)) (k_rwithin_ok (g_is_multiple (zz + 1)) (g_is_left zz))
theorem g_check_rests (zz : Nat) : (ChkR2) (F_check_rests (zz + 5)) := tr (P := ChkR2) (u_check_rests (zz + 4)) (k_rchecks_ok (g_check_rest zz))
theorem g_rest_within (zz : Nat) : (WithRF) (F_rest_within (zz + 6)) := tr (P := WithRF) (u_rest_within (zz + 5)) (k_srwithin_ok (g_is_rest_within (zz + 2)) (g_check_rests zz))
theorem g_is_low_within (zz : Nat) : (fun f => ∀ a b : EE, f [.val (eE a), .val (eE b)] = some (.val (.bool (lowW a b)), [])) (F_is_low_within (zz + 1)) := tr (P := fun f => ∀ a b : EE, f [.val (eE a), .val (eE b)] = some (.val (.bool (lowW a b)), [])) (u_is_low_within (zz)) (k_low_ok)
theorem g_is_high_within (zz : Nat) : (fun f => ∀ a b : EE, f [.val (eE a), .val (eE b)] = some (.val (.bool (highW a b)), [])) (F_is_high_within (zz + 1)) := tr (P := fun f => ∀ a b : EE, f [.val (eE a), .val (eE b)] = some (.val (.bool (highW a b)), [])) (u_is_high_within (zz)) (k_high_ok)
theorem g_met_stretch (zz : Nat) : (fun f => ∀ a b : SS, f [.val (eS a), .val (eS b)] = some (.val (eS (meetS a b)), [])) (F_met_stretch (zz + 2)) := tr (P := fun f => ∀ a b : SS, f [.val (eS a), .val (eS b)] = some (.val (eS (meetS a b)), [])) (u_met_stretch (zz + 1)) (k_met_ok (g_is_low_within zz) (g_is_high_within zz))
theorem g_first_from (zz : Nat) : (FirstF) (F_first_from (zz + 1)) := tr (P := FirstF) (u_first_from (zz)) (k_firstFrom_ok)
theorem g_last_up_to (zz : Nat) : (LastF) (F_last_up_to (zz + 1)) := tr (P := LastF) (u_last_up_to (zz)) (k_lastUp_ok)
theorem g_settled_by (zz : Nat) : (LSetF) (F_settled_by (zz + 3)) := tr (P := LSetF) (u_settled_by (zz + 2)) (fun a b h => k_settledBy_ok (g_met_stretch zz) (g_first_from (zz + 1)) (g_last_up_to (zz + 1)) h)
theorem g_is_end (zz : Nat) : (fun f => ∀ x : EE, f [.val (eE x)] = some (.val (.bool true), [])) (F_is_end (zz + 2)) := tr (P := fun f => ∀ x : EE, f [.val (eE x)] = some (.val (.bool true), [])) (u_is_end (zz + 1)) (k_end_ok (g_is_whole zz))
theorem g_is_stretched (zz : Nat) : (fun f => ∀ a : SS, f [.val (eS a)] = some (.val (.bool (okS a)), [])) (F_is_stretched (zz + 3)) := tr (P := fun f => ∀ a : SS, f [.val (eS a)] = some (.val (.bool (okS a)), [])) (u_is_stretched (zz + 2)) (k_stretched_ok (g_is_end zz))
theorem g_check_stretch (zz : Nat) : (fun f => ∀ a : SS, okS a = true → f [.val (eS a)] = some (.val .none, [])) (F_check_stretch (zz + 4)) := tr (P := fun f => ∀ a : SS, okS a = true → f [.val (eS a)] = some (.val .none, [])) (u_check_stretch (zz + 3)) (fun a h => k_check_stretch_ok (g_is_stretched zz) h)
theorem g_settled (zz : Nat) : (SetF) (F_settled (zz + 5)) := tr (P := SetF) (u_settled (zz + 4)) (k_settled_ok (g_settled_by (zz + 1)) (g_check_stretch zz) (g_check_rest zz))
theorem g_is_held (zz : Nat) : (fun f => ∀ (a : SS) (k : Int), f [.val (eS a), .val (.int k)] = some (.val (.bool (hasS a k)), [])) (F_is_held (zz + 1)) := tr (P := fun f => ∀ (a : SS) (k : Int), f [.val (eS a), .val (.int k)] = some (.val (.bool (hasS a k)), [])) (u_is_held (zz)) (k_held_ok)
theorem g_stretch_holds (zz : Nat) : (fun f => ∀ (a : SS) (k : Int), okS a = true → f [.val (eS a), .val (.int k)] = some (.val (.bool (hasS a k)), [])) (F_stretch_holds (zz + 5)) := tr (P := fun f => ∀ (a : SS) (k : Int), okS a = true → f [.val (eS a), .val (.int k)] = some (.val (.bool (hasS a k)), [])) (u_stretch_holds (zz + 4)) (fun a k h => k_stretch_holds_ok (g_is_held (zz + 3)) (g_check_stretch zz) (g_check_whole (zz + 2)) h k)
theorem g_is_stretch_within (zz : Nat) : (fun f => ∀ a b : SS, f [.val (eS a), .val (eS b)] = some (.val (.bool (withinS a b)), [])) (F_is_stretch_within (zz + 2)) := tr (P := fun f => ∀ a b : SS, f [.val (eS a), .val (eS b)] = some (.val (.bool (withinS a b)), [])) (u_is_stretch_within (zz + 1)) (k_within_ok (g_is_low_within zz) (g_is_high_within zz))
theorem g_check_stretches (zz : Nat) : (fun f => ∀ a b : SS, okS a = true → okS b = true → f [.val (eS a), .val (eS b)] = some (.val .none, [])) (F_check_stretches (zz + 5)) := tr (P := fun f => ∀ a b : SS, okS a = true → okS b = true → f [.val (eS a), .val (eS b)] = some (.val .none, [])) (u_check_stretches (zz + 4)) (fun a b ha hb => k_check_stretches_ok (g_check_stretch zz) ha hb)
theorem g_stretch_within (zz : Nat) : (fun f => ∀ a b : SS, okS a = true → okS b = true → f [.val (eS a), .val (eS b)] = some (.val (.bool (withinS a b)), [])) (F_stretch_within (zz + 6)) := tr (P := fun f => ∀ a b : SS, okS a = true → okS b = true → f [.val (eS a), .val (eS b)] = some (.val (.bool (withinS a b)), [])) (u_stretch_within (zz + 5)) (fun a b ha hb => k_stretch_within_ok (g_is_stretch_within (zz + 3)) (g_check_stretches zz) ha hb)
theorem g__law_is_whole (zz : Nat) : (fun f => ∀ i : Int, f [.val (.int i)] = some (.val (.bool true), [])) (F_law_is_whole (zz + 1)) := tr (P := fun f => ∀ i : Int, f [.val (.int i)] = some (.val (.bool true), [])) (u_law_is_whole (zz)) (k_whole_ok)
theorem g__law_same_k : ∀ k n : Nat, SameOk k (F_law_same (n + k + 2))
  | 0, n => fun d h => (congrFun (u_law_same (n + 1)) _).trans (k_same_ok (g__law_is_whole n) d h)
  | k + 1, n => fun d h => (congrFun (u_law_same (n + k + 2)) _).trans (k_same_up (g__law_is_whole (n + k + 1)) (g__law_same_k k n) d h)
theorem g__law_same (n : Nat) : SameOk 3 (F_law_same (n + 5)) := g__law_same_k 3 n
theorem g__law_has (zz : Nat) : (fun f => ∀ (a : SS) (k : Int), f [.val (eS a), .val (.int k)] = some (.val (.bool (hasS a k)), [])) (F_law_has (zz + 1)) := tr (P := fun f => ∀ (a : SS) (k : Int), f [.val (eS a), .val (.int k)] = some (.val (.bool (hasS a k)), [])) (u_law_has (zz)) (k__law_has_ok)
theorem g__law_rest_has (zz : Nat) : (LeftF) (F_law_rest_has (zz + 1)) := tr (P := LeftF) (u_law_rest_has (zz)) (k__law_rhas_ok)
theorem g__law_settled (zz : Nat) : (LSetF) (F_law_settled (zz + 2)) := tr (P := LSetF) (u_law_settled (zz + 1)) (fun a b h => k_lsettled_ok (g__law_has zz) h)
theorem g__law_common (zz : Nat) : (CommF) (F_law_common (zz + 1)) := tr (P := CommF) (u_law_common (zz)) (k_common_ok)
theorem g__law_least (zz : Nat) : (LeastF) (F_law_least (zz + 2)) := tr (P := LeastF) (u_law_least (zz + 1)) (fun ns h1 h2 => k_least_ok (g__law_common zz) h1 h2)
theorem g__law_tried (zz : Nat) : (TriedF) (F_law_tried (zz + 3)) := tr (P := TriedF) (u_law_tried (zz + 2)) (fun l u b h1 h2 h3 h4 => k34_tried_ok (g__law_rest_has (zz + 1)) (g__law_least zz) h1 h2 h3 h4)
theorem g__law_pair_right (zz : Nat) : (PairF) (F_law_pair_right (zz + 7)) := tr (P := PairF) (u_law_pair_right (zz + 6)) (fun a b ns h1 h2 h3 => k34_pair_ok (g_rest_holds (zz + 1)) (g_rest_within zz) (g_settled (zz + 1)) (g_stretch_holds (zz + 1)) (g_stretch_within zz) (g__law_same (zz + 1)) (g__law_has (zz + 5)) (g__law_rest_has (zz + 5)) (g__law_settled (zz + 4)) (g__law_tried (zz + 3)) h1 h2 h3 ns)
theorem g__law_right (zz : Nat) : (Rg) (F_law_right (zz + 8)) := tr (P := Rg) (u_law_right (zz + 7)) (k34_right_ok (g__law_stretch (zz + 3)) (g__law_near (zz + 2)) (g__law_rest_at (zz + 2)) (g__law_numbers (zz + 2)) (g__law_pair_right zz))
theorem law_true (ns : List Int) (h : ns.length ≤ 63) : F_law 30 [.val (.list (ns.map PyData.int))] = some (.val (.bool true), []) :=
  (congrFun (u_48 29) _).trans (law_ok (ri := F_law_right 29) (so := F_law_source 29) (tr (P := Sc ns) (u_law_source 28) (source_sc (by decide) (by decide) ns)) (g__law_right 21))
end K34
open PySem PySem.W PySem.Calls PyProof.Rows in
theorem PySem.Challenge.cw_soundlooks_k34_whole_settled_stretches_a_holds : PySem.Challenge.rw_soundlooks_k34_whole_settled_stretches_a.Holds := by
  w_on; o_law
  refine HandSHeadRun.head_any (r := OpenLaw.row PySem.Challenge.rw_soundlooks_k34_whole_settled_stretches_a) (q := view (OpenLaw.row PySem.Challenge.rw_soundlooks_k34_whole_settled_stretches_a).prog [63]) (H := K34.hk) (ob := K34.ob) (M := 9000) (loose := K34.loose) (d := HandSHeadRun.topDef (OpenLaw.row PySem.Challenge.rw_soundlooks_k34_whole_settled_stretches_a).prog 63) (kwd := []) K34.ob_eq
    (by kernel_rfl) (fun s => by kernel_rfl) K34.runs (by kernel_rfl) (by kernel_rfl) (by kernel_rfl) (by rfl) (by first | assumption | decide +kernel) (by decide +kernel) ⟨rfl, rfl, rfl, rfl, rfl, by decide +kernel⟩ ?hw ?hc
  case hw => w_witness2
  case hc =>
    exact Ev.law_end (l := PySem.Challenge.rw_soundlooks_k34_whole_settled_stretches_a) (i := 48) (n := 30) (m := 63) (r := K34.r48) (p := "_law_script") K34.tb_ok rfl K34.bd_ok K34.kw_ok rfl (by kernel_rfl) rfl rfl rfl (by decide) (by kernel_rfl) ⟨rfl, by decide, by decide⟩ K34.law_true
