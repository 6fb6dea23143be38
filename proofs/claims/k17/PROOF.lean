import PyProof.Rows.All
import Wide.All
import OpenK.AllK
import Wide.FinOn
import HandS.ForMost
import HandS.ForExc
import HandS.IsInst
import HandS.TupAny
import HandS.Walk
import HandS.Zip
import HandS.Rev
import HandS.CallSlots
import HandS.Wide
import HandS.Ends
import PySem.Challenge.RW_pollshots_k17_whole_fewest_further_votes
set_option Elab.async false
set_option linter.all false
set_option maxRecDepth 100000
/-! Pj: values as plain data, slots, judgements that hide the heap. -/
namespace Pj
open PySem PySem.Spec PyProof.Rows L2

abbrev PD := PyData
/-- the content of a thing that the def alone holds -/
inductive Ct where
  | lst (ds : List PD)
  | dk (kvs : List (Key × PD))
/-- a slot: unset, a value that nobody changes, an own thing, a thing lent by the caller (at its address) -/
inductive Sl where
  | un
  | va (d : PD)
  | ow (c : Ct)
  | br (a : Addr) (c : Ct)
abbrev En := List Sl
def Sl.ct : Sl → Option Ct
  | .ow c => some c
  | .br _ c => some c
  | _ => none
def Sl.isAt (a : Addr) : Sl → Prop
  | .br b _ => b = a
  | _ => True
inductive Rs where
  | va (d : PD)
  | ow (c : Ct)

inductive KAll (K : PySem.W.Frag) (F : Hp) : List (Key × V) → List (Key × PD) → Prop
  | nil : KAll K F [] []
  | cons {k : Key} {v : V} {d : PD} {vs : List (Key × V)} {ds : List (Key × PD)} : Dp K F v d → KAll K F vs ds → KAll K F ((k, v) :: vs) ((k, d) :: ds)
def CtOk (K : PySem.W.Frag) (F : Hp) : HO → Ct → Prop
  | .lst vs, .lst ds => DpAll K F vs ds
  | .dK vs, .dk ds => KAll K F vs ds
  | _, _ => False

section
variable {K : PySem.W.Frag} {F F' H H' : Hp}
theorem Same.seqT (e : Same H H') {a : Addr} {xs : List V} (h : SqT K H a xs) : SqT K H' a xs := by
  rcases h with (h | ⟨o, h⟩) | h
  · exact .inl (.inl (e _ _ h))
  · exact .inl (.inr ⟨o, e _ _ h⟩)
  · exact .inr h
mutual
theorem dp_mono (e : Same F F') : ∀ (d : PD) (v : V), Dp K F v d → Dp K F' v d
  | .none, _, h => by cases h; exact .non
  | .bool _, _, h => by cases h; exact .bl _
  | .int _, _, h => by cases h; exact .int _
  | .str _, _, h => by cases h; exact .str _
  | .list ds, _, h => by
    cases h with
    | lst hs ha => exact .lst (Same.seq e hs) (dpAll_mono e ds _ ha)
  | .tuple ds, _, h => by
    cases h with
    | tup hs ha => exact .tup (Same.seqT e hs) (dpAll_mono e ds _ ha)
  | .dict _, _, h => by cases h
theorem dpAll_mono (e : Same F F') : ∀ (ds : List PD) (vs : List V), DpAll K F vs ds → DpAll K F' vs ds
  | [], _, h => by cases h; exact .nil
  | d :: ds, _, h => by
    cases h with
    | cons h1 h2 => exact .cons (dp_mono e d _ h1) (dpAll_mono e ds _ h2)
end
theorem Dp.mono {v : V} {d : PD} (h : Dp K F v d) (e : Same F F') : Dp K F' v d := dp_mono e d v h
theorem DpAll.mono {v : List V} {d : List PD} (h : DpAll K F v d) (e : Same F F') : DpAll K F' v d := dpAll_mono e d v h
theorem KAll.mono {v : List (Key × V)} {d : List (Key × PD)} (h : KAll K F v d) (e : Same F F') : KAll K F' v d := by
  induction h with
  | nil => exact .nil
  | cons h _ ih => exact .cons (Dp.mono h e) ih
theorem CtOk.mono {o : HO} {c : Ct} (h : CtOk K F o c) (e : Same F F') : CtOk K F' o c := by
  cases o <;> cases c <;> first | exact h.elim | exact DpAll.mono h e | exact KAll.mono h e
theorem DpAll.len {vs : List V} : ∀ {ds : List PD}, DpAll K F vs ds → vs.length = ds.length := by
  induction vs with
  | nil => intro ds h; cases h; rfl
  | cons v vs ih => intro ds h; cases h with | cons h1 h2 => simp [ih h2]
theorem DpAll.get {ds : List PD} : ∀ {vs : List V} {i : Nat} {d : PD}, DpAll K F vs ds → ds[i]? = some d → ∃ v, vs[i]? = some v ∧ Dp K F v d := by
  induction ds with
  | nil => intro vs i d h e; simp at e
  | cons x ds ih =>
    intro vs i d h e
    cases h with
    | cons h1 h2 =>
      cases i with
      | zero => simp at e; subst e; exact ⟨_, rfl, h1⟩
      | succ i => simp at e; simpa using ih h2 e
theorem DpAll.at {vs : List V} : ∀ {ds : List PD} {i : Nat} {v : V}, DpAll K F vs ds → vs[i]? = some v → ∃ d, ds[i]? = some d ∧ Dp K F v d := by
  induction vs with
  | nil => intro vs i d h e; simp at e
  | cons x ds ih =>
    intro vs i d h e
    cases h with
    | cons h1 h2 =>
      cases i with
      | zero => simp at e; subst e; exact ⟨_, rfl, h1⟩
      | succ i => simp at e; simpa using ih h2 e
theorem DpAll.append {vs ws : List V} {ds es : List PD} (h : DpAll K F vs ds) (g : DpAll K F ws es) : DpAll K F (vs ++ ws) (ds ++ es) := by
  induction vs generalizing ds with
  | nil => cases h; exact g
  | cons v vs ih => cases h with | cons h1 h2 => exact .cons h1 (ih h2)
theorem DpAll.set {vs : List V} {ds : List PD} (h : DpAll K F vs ds) {v : V} {d : PD} (g : Dp K F v d) (i : Nat) : DpAll K F (vs.set i v) (ds.set i d) := by
  induction vs generalizing ds i with
  | nil => cases h; exact .nil
  | cons v vs ih =>
    cases h with
    | cons h1 h2 =>
      cases i with
      | zero => exact .cons g h2
      | succ i => exact .cons h1 (ih h2 i)
theorem DpAll.take {vs : List V} {ds : List PD} (h : DpAll K F vs ds) (n : Nat) : DpAll K F (vs.take n) (ds.take n) := by
  induction vs generalizing ds n with
  | nil => cases h; simp; exact .nil
  | cons v vs ih =>
    cases h with
    | cons h1 h2 =>
      cases n with
      | zero => exact .nil
      | succ n => exact .cons h1 (ih h2 n)
theorem DpAll.drop {vs : List V} {ds : List PD} (h : DpAll K F vs ds) (n : Nat) : DpAll K F (vs.drop n) (ds.drop n) := by
  induction vs generalizing ds n with
  | nil => cases h; simp; exact .nil
  | cons v vs ih =>
    cases h with
    | cons h1 h2 =>
      cases n with
      | zero => exact .cons h1 h2
      | succ n => exact ih h2 n
theorem DpAll.reverse {vs : List V} {ds : List PD} (h : DpAll K F vs ds) : DpAll K F vs.reverse ds.reverse := by
  induction vs generalizing ds with
  | nil => cases h; exact .nil
  | cons v vs ih =>
    cases h with
    | cons h1 h2 => rw [List.reverse_cons, List.reverse_cons]; exact DpAll.append (ih h2) (.cons h1 .nil)
theorem DpAll.ints {ns : List Int} : ∀ {vs : List V}, DpAll K F vs (ns.map PyData.int) → vs = ns.map V.int := by
  induction ns with
  | nil => intro vs h; cases h; rfl
  | cons n ns ih => intro vs h; cases h with | cons h1 h2 => cases h1; rw [ih h2]; rfl
theorem DpAll.bls {ns : List Bool} : ∀ {vs : List V}, DpAll K F vs (ns.map PyData.bool) → vs = ns.map V.bl := by
  induction ns with
  | nil => intro vs h; cases h; rfl
  | cons n ns ih => intro vs h; cases h with | cons h1 h2 => cases h1; rw [ih h2]; rfl
theorem DpAll.strs {ns : List Str} : ∀ {vs : List V}, DpAll K F vs (ns.map PyData.str) → vs = ns.map V.str := by
  induction ns with
  | nil => intro vs h; cases h; rfl
  | cons n ns ih => intro vs h; cases h with | cons h1 h2 => cases h1; rw [ih h2]; rfl
end

/-! ### environments -/
def OwAt (σ : L2.St) (ρ : En) (i : Nat) (a : Addr) : Prop := (∃ s c, ρ[i]? = some s ∧ s.ct = some c) ∧ σ[i]? = some (some (.ref a))

structure RE (K : PySem.W.Frag) (F H : Hp) (σ : L2.St) (ρ : En) : Prop where
  len : σ.length = ρ.length
  fh : Same F H
  va : ∀ (i : Nat) (d : PD), ρ[i]? = some (Sl.va d) → ∃ v : V, σ[i]? = some (some v) ∧ Dp K F v d
  ob : ∀ (i : Nat) (s : Sl) (c : Ct), ρ[i]? = some s → s.ct = some c → ∃ (a : Addr) (o : HO), σ[i]? = some (some (.ref a)) ∧ s.isAt a ∧ F a = none ∧ H a = some o ∧ CtOk K F o c
  inj : ∀ i j a, OwAt σ ρ i a → OwAt σ ρ j a → i = j

theorem RE.owAt {K : PySem.W.Frag} {F H : Hp} {σ : L2.St} {ρ : En} (R : RE K F H σ ρ) {i : Nat} {a : Addr} (h : OwAt σ ρ i a) : F a = none ∧ ∃ o, H a = some o := by
  obtain ⟨⟨s, c, h1, h2⟩, h3⟩ := h
  obtain ⟨b, o, e1, _, e2, e3, _⟩ := R.ob i s c h1 h2
  rw [h3] at e1
  cases e1
  exact ⟨e2, o, e3⟩

/-- what became of the heap -/
structure Ext (σ : L2.St) (ρ : En) (F H : Hp) (σ' : L2.St) (ρ' : En) (F' H' : Hp) : Prop where
  ff : Same F F'
  hh : ∀ b o, H b = some o → (∀ i, ¬ OwAt σ ρ i b) → H' b = some o
  nf : ∀ b o, F b = none → H b = some o → (∀ i, ¬ OwAt σ ρ i b) → F' b = none
  ow : ∀ i a, OwAt σ' ρ' i a → (∃ j, OwAt σ ρ j a) ∨ H a = none
  tr : ∀ b, H' b = none → H b = none

theorem Ext.refl {σ : L2.St} {ρ : En} {F H : Hp} : Ext σ ρ F H σ ρ F H := ⟨Same.refl _, fun _ _ h _ => h, fun _ _ h _ _ => h, fun i _ h => .inl ⟨i, h⟩, fun _ h => h⟩
theorem Ext.trans {σ σ1 σ2 : L2.St} {ρ ρ1 ρ2 : En} {F H F1 H1 F2 H2 : Hp} (a : Ext σ ρ F H σ1 ρ1 F1 H1) (b : Ext σ1 ρ1 F1 H1 σ2 ρ2 F2 H2) : Ext σ ρ F H σ2 ρ2 F2 H2 := by
  have key : ∀ c o, H c = some o → (∀ i, ¬ OwAt σ ρ i c) → ∀ i, ¬ OwAt σ1 ρ1 i c := fun c o h n i q => by
    rcases a.ow i c q with ⟨j, z⟩ | z
    · exact n j z
    · rw [h] at z; cases z
  refine ⟨a.ff.trans b.ff, fun c o h n => b.hh c o (a.hh c o h n) (key c o h n), fun c o f h n => b.nf c o (a.nf c o f h n) (a.hh c o h n) (key c o h n), fun i c q => ?_, fun c z => a.tr c (b.tr c z)⟩
  rcases b.ow i c q with ⟨j, z⟩ | z
  · exact a.ow j c z
  · exact .inr (a.tr c z)

/-- nothing that was there has changed -/
structure Xt (F H F' H' : Hp) : Prop where
  ff : Same F F'
  hh : Same H H'
  fh : Same F' H'
  nf : ∀ b o, F b = none → H b = some o → F' b = none
theorem Xt.refl {F H : Hp} (e : Same F H) : Xt F H F H := ⟨Same.refl _, Same.refl _, e, fun _ _ h _ => h⟩
theorem Xt.trans {F H F1 H1 F2 H2 : Hp} (a : Xt F H F1 H1) (b : Xt F1 H1 F2 H2) : Xt F H F2 H2 :=
  ⟨a.ff.trans b.ff, a.hh.trans b.hh, b.fh, fun c o f h => b.nf c o (a.nf c o f h) (a.hh c o h)⟩
theorem same_upd {H : Hp} {p : Addr} {o : HO} (h : H p = none) : Same H (upd H p o) := fun b x e => by
  rw [upd_ne (ne_of_none e h)]
  exact e
theorem same_upd2 {F H : Hp} {p : Addr} {o : HO} (e : Same F H) : Same (upd F p o) (upd H p o) := fun b x h => by
  by_cases z : b = p
  · subst z; rw [upd_same] at h ⊢; exact h
  · rw [upd_ne z] at h ⊢; exact e _ _ h
/-- a new thing, held by nobody else -/
theorem Xt.own {F H : Hp} {p : Addr} {o : HO} (e : Same F H) (h : H p = none) : Xt F H F (upd H p o) := ⟨Same.refl _, same_upd h, e.trans (same_upd h), fun _ _ f _ => f⟩
/-- a new thing that nobody will change -/
theorem Xt.frz {F H : Hp} {p : Addr} {o : HO} (e : Same F H) (h : H p = none) : Xt F H (upd F p o) (upd H p o) :=
  ⟨same_upd (Same.free e h), same_upd h, same_upd2 e, fun b u f g => by rw [upd_ne (ne_of_none g h)]; exact f⟩

theorem RE.ext {K : PySem.W.Frag} {F H F' H' : Hp} {σ : L2.St} {ρ : En} (R : RE K F H σ ρ) (x : Xt F H F' H') : RE K F' H' σ ρ ∧ Ext σ ρ F H σ ρ F' H' := by
  refine ⟨⟨R.len, x.fh, fun i d h => ?_, fun i s c h1 h2 => ?_, R.inj⟩, ⟨x.ff, fun b o h _ => x.hh b o h, fun b o f h _ => x.nf b o f h, fun i a h => .inl ⟨i, h⟩, fun b z => Same.free x.hh z⟩⟩
  · obtain ⟨v, e, z⟩ := R.va i d h
    exact ⟨v, e, Dp.mono z x.ff⟩
  · obtain ⟨a, o, e1, e2, e3, e4, e5⟩ := R.ob i s c h1 h2
    exact ⟨a, o, e1, e2, x.nf _ _ e3 e4, x.hh _ _ e4, CtOk.mono e5 x.ff⟩

/-- a value by itself: H0 the heap ahead of it -/
def PRs (K : PySem.W.Frag) (H0 F H : Hp) (v : V) : Rs → Prop
  | .va d => Dp K F v d
  | .ow c => ∃ a o, v = .ref a ∧ F a = none ∧ H a = some o ∧ CtOk K F o c ∧ H0 a = none
def RsOk (K : PySem.W.Frag) (H0 F H : Hp) (σ : L2.St) (ρ : En) (v : V) (r : Rs) : Prop := PRs K H0 F H v r ∧ ∀ c a, r = .ow c → v = .ref a → ∀ i, ¬ OwAt σ ρ i a

/-- how an expression ends -/
inductive EO where
  | ok (ρ : En) (r : Rs)
  | ex (ρ : En) (n : Str) (p : Option (Str × PD))
def XCond (K : PySem.W.Frag) (mg : Str → Option Value) (F H : Hp) (n : Str) (p : Option (Str × PD)) (E : Value → Option Addr → Hp → Prop) : Prop :=
  ∀ C, mg n = some (.ref C) → match p with
    | none => E (.ref C) none H
    | some (f, d) => ∀ dx v, H dx = some (.xd [(f, v)]) → Dp K F v d → E (.ref C) (some dx) H
def EPost (X : Cx) (W : WX) (F H : Hp) (σ : L2.St) (ρ : En) (Q : VK) : EO → Prop
  | .ok ρ' r => ∀ F' H' v, Ext σ ρ F H σ ρ' F' H' → RE X.K F' H' σ ρ' → RsOk X.K H F' H' σ ρ' v r → Q v H'
  | .ex ρ' n p => ∀ F' H', Ext σ ρ F H σ ρ' F' H' → RE X.K F' H' σ ρ' → XCond X.K X.mg F' H' n p (fun c d H2 => W c d σ H2)
def EJ (X : Cx) (W : WX) (e : Expr) (ρ : En) (o : EO) : Prop := ∃ t, PE X e t ∧ ∀ F H σ Q, RE X.K F H σ ρ → EPost X W F H σ ρ Q o → t σ H Q
def TJ (X : Cx) (W : WX) (e : Expr) (ρ ρ' : En) (b : Bool) : Prop := ∃ t, PT X e t ∧ ∀ F H σ Q, RE X.K F H σ ρ → (∀ F' H', Ext σ ρ F H σ ρ' F' H' → RE X.K F' H' σ ρ' → Q b H') → t σ H Q
def WJ (X : Cx) (W : WX) (e : Expr) (ρ ρ' : En) (b : Bool) : Prop := ∃ t, PW X e t ∧ ∀ F H σ Q, RE X.K F H σ ρ → (∀ F' H', Ext σ ρ F H σ ρ' F' H' → RE X.K F' H' σ ρ' → Q b H') → t σ H Q
def AJ (X : Cx) (W : WX) (es : List Expr) (ρ ρ' : En) (ds : List PD) : Prop := ∃ t, PA X es t ∧ ∀ F H σ Q, RE X.K F H σ ρ → (∀ F' H' vs, Ext σ ρ F H σ ρ' F' H' → RE X.K F' H' σ ρ' → DpAll X.K F' vs ds → Q vs H') → t σ H Q
/-- how a statement ends -/
inductive SO where
  | nx (ρ : En)
  | rt (ρ : En) (r : Rs)
  | bk (ρ : En)
  | ct (ρ : En)
  | ex (ρ : En) (n : Str) (p : Option (Str × PD))
def SPost (X : Cx) (W : WX) (F H : Hp) (σ : L2.St) (ρ : En) (D : Ends) : SO → Prop
  | .nx ρ' => ∀ F' H' σ', Ext σ ρ F H σ' ρ' F' H' → RE X.K F' H' σ' ρ' → D.nx σ' H'
  | .bk ρ' => ∀ F' H' σ', Ext σ ρ F H σ' ρ' F' H' → RE X.K F' H' σ' ρ' → D.bk σ' H'
  | .ct ρ' => ∀ F' H' σ', Ext σ ρ F H σ' ρ' F' H' → RE X.K F' H' σ' ρ' → D.ct σ' H'
  | .rt ρ' r => ∀ F' H' σ' v, Ext σ ρ F H σ' ρ' F' H' → RE X.K F' H' σ' ρ' → RsOk X.K H F' H' σ' ρ' v r → D.rt v H'
  | .ex ρ' n p => ∀ F' H' σ', Ext σ ρ F H σ' ρ' F' H' → RE X.K F' H' σ' ρ' → XCond X.K X.mg F' H' n p (fun c d H2 => W c d σ' H2)
def SJ (X : Cx) (W : WX) (st : Stmt) (ρ : En) (o : SO) : Prop := ∃ t, PS X st t ∧ ∀ F H σ D, RE X.K F H σ ρ → SPost X W F H σ ρ D o → t D σ H
def BJ (X : Cx) (W : WX) (st : List Stmt) (ρ : En) (o : SO) : Prop := ∃ t, PSs X st t ∧ ∀ F H σ D, RE X.K F H σ ρ → SPost X W F H σ ρ D o → t D σ H

theorem RsOk.pull {K : PySem.W.Frag} {H0 H1 F H : Hp} {σ : L2.St} {ρ : En} {v : V} {r : Rs} (h : RsOk K H1 F H σ ρ v r) (tr : ∀ b, H1 b = none → H0 b = none) : RsOk K H0 F H σ ρ v r := by
  refine ⟨?_, h.2⟩
  cases r with
  | va d => exact h.1
  | ow c =>
    obtain ⟨a, o, h1, h2, h3, h4, h5⟩ := h.1
    exact ⟨a, o, h1, h2, h3, h4, tr _ h5⟩
theorem EPost.pull {X : Cx} {W : WX} {F H F1 H1 : Hp} {σ : L2.St} {ρ ρ1 : En} {Q : VK} {o : EO} (h : EPost X W F H σ ρ Q o) (x : Ext σ ρ F H σ ρ1 F1 H1) : EPost X W F1 H1 σ ρ1 Q o := by
  cases o with
  | ok ρ' r => exact fun F' H' v y R q => h F' H' v (x.trans y) R (q.pull x.tr)
  | ex ρ' n p => exact fun F' H' y R => h F' H' (x.trans y) R
theorem SPost.pull {X : Cx} {W : WX} {F H F1 H1 : Hp} {σ σ1 : L2.St} {ρ ρ1 : En} {D : Ends} {o : SO} (h : SPost X W F H σ ρ D o) (x : Ext σ ρ F H σ1 ρ1 F1 H1) : SPost X W F1 H1 σ1 ρ1 D o := by
  cases o with
  | nx ρ' => exact fun F' H' σ' y R => h F' H' σ' (x.trans y) R
  | bk ρ' => exact fun F' H' σ' y R => h F' H' σ' (x.trans y) R
  | ct ρ' => exact fun F' H' σ' y R => h F' H' σ' (x.trans y) R
  | rt ρ' r => exact fun F' H' σ' v y R q => h F' H' σ' v (x.trans y) R (q.pull x.tr)
  | ex ρ' n p => exact fun F' H' σ' y R => h F' H' σ' (x.trans y) R
theorem EPost.fin {X : Cx} {W : WX} {F H F1 H1 : Hp} {σ : L2.St} {ρ : En} {Q : VK} {z : Rs} {v : V} (h : EPost X W F H σ ρ Q (.ok ρ z)) (R : RE X.K F H σ ρ) (x : Xt F H F1 H1) (p : PRs X.K H F1 H1 v z) : Q v H1 := by
  obtain ⟨R1, e⟩ := R.ext x
  refine h F1 H1 v e R1 ⟨p, fun c a e1 e2 i q => ?_⟩
  subst e1
  obtain ⟨a', o, h1, _, _, _, h5⟩ := p
  rw [h1] at e2
  cases e2
  obtain ⟨_, o, z⟩ := R.owAt q
  rw [h5] at z
  cases z

/-! ### what is left undone -/
section
variable {X : Cx}
theorem pe_never {e : Expr} : PE X e (fun _ _ _ => False) := ⟨fun _ _ _ _ _ _ h => h.elim⟩
theorem pt_never {e : Expr} : PT X e (fun _ _ _ => False) := ⟨fun _ _ _ _ _ _ h => h.elim⟩
theorem pw_never {e : Expr} : PW X e (fun _ _ _ => False) := ⟨fun _ _ _ _ _ _ _ h => h.elim⟩
theorem pa_never {e : List Expr} : PA X e (fun _ _ _ => False) := ⟨fun _ _ _ _ _ _ _ h => h.elim⟩
end
end Pj
set_option Elab.async false
set_option linter.all false
set_option maxRecDepth 100000
namespace Pj
open PySem PySem.Spec PyProof.Rows L2
section
variable {X : Cx} {W : WX} {e a b c : Expr} {es : List Expr} {ρ ρ1 ρ2 ρ3 : En} {o : EO} {d x y : PD} {ds : List PD} {z : Rs} {pos p : Pos}

/-! ### atoms -/
theorem ej_var (i : Nat) {n : Str} (hd : ρ[i]? = some (.va d) := by rfl) (hN : X.N[i]? = some n := by rfl) (hv : Vis X.env.scope n := by first | exact Or.inl rfl | exact Or.inr (Or.inl rfl) | exact Or.inr (Or.inr rfl)) (hdb : (n == ("__debug__" : Str)) = false := by decide)
    (hcd : (n == ("__classdict__" : Str)) = false := by decide) : EJ X W (.Name n pos) ρ (.ok ρ (.va d)) := by
  refine ⟨_, pe_var hN hv hdb hcd, fun F H σ Q R h => ?_⟩
  obtain ⟨v, e1, e2⟩ := R.va i d hd
  exact ⟨v, e1, h.fin R (Xt.refl R.fh) e2⟩
/-- the slot of an own list is from now on a value -/
theorem re_frz {K : PySem.W.Frag} {F H : Hp} {σ : L2.St} {i : Nat} {ds : List PD} (R : RE K F H σ ρ) (hd : ρ[i]? = some (.ow (.lst ds))) :
    ∃ a vs, σ[i]? = some (some (.ref a)) ∧ H a = some (.lst vs) ∧ F a = none ∧ Same F (upd F a (.lst vs)) ∧ RE K (upd F a (.lst vs)) H σ (ρ.set i (.va (.list ds))) ∧ Ext σ ρ F H σ (ρ.set i (.va (.list ds))) (upd F a (.lst vs)) H ∧ Dp K (upd F a (.lst vs)) (.ref a) (.list ds) := by
  obtain ⟨a, u, e1, _, e3, e4, e5⟩ := R.ob i _ _ hd rfl
  cases u with
  | lst vs =>
    have sF : Same F (upd F a (.lst vs)) := same_upd e3
    have dp : Dp K (upd F a (.lst vs)) (.ref a) (.list ds) := .lst (SqL.of upd_same) (DpAll.mono (show DpAll K F vs ds from e5) sF)
    have hi : i < ρ.length := (List.getElem?_eq_some_iff.mp hd).1
    have hA : OwAt σ ρ i a := ⟨⟨_, _, hd, rfl⟩, e1⟩
    have back : ∀ j b, OwAt σ (ρ.set i (.va (.list ds))) j b → OwAt σ ρ j b ∧ j ≠ i := fun j b ⟨⟨s, c, h1, h2⟩, h3⟩ => by
      by_cases z : j = i
      · subst z
        rw [List.getElem?_set_self hi] at h1
        cases h1
        cases h2
      · rw [List.getElem?_set_ne (Ne.symm z)] at h1
        exact ⟨⟨⟨s, c, h1, h2⟩, h3⟩, z⟩
    refine ⟨a, vs, e1, e4, e3, sF, ⟨by rw [R.len, List.length_set], fun b x h => ?_, fun j d h => ?_, fun j s c h1 h2 => ?_, fun j k b h1 h2 => R.inj j k b (back j b h1).1 (back k b h2).1⟩, ⟨sF, fun b o h _ => h, fun b o f h n => ?_, fun j b h => .inl ⟨j, (back j b h).1⟩, fun _ h => h⟩, dp⟩
    · by_cases z : b = a
      · subst z; rw [upd_same] at h; cases h; exact e4
      · rw [upd_ne z] at h; exact R.fh _ _ h
    · by_cases z : j = i
      · subst z
        rw [List.getElem?_set_self hi] at h
        cases h
        exact ⟨_, e1, dp⟩
      · rw [List.getElem?_set_ne (Ne.symm z)] at h
        obtain ⟨v, q1, q2⟩ := R.va j d h
        exact ⟨v, q1, Dp.mono q2 sF⟩
    · by_cases z : j = i
      · subst z
        rw [List.getElem?_set_self hi] at h1
        cases h1
        cases h2
      · rw [List.getElem?_set_ne (Ne.symm z)] at h1
        obtain ⟨a', u, q1, q2, q3, q4, q5⟩ := R.ob j s c h1 h2
        have ne : a' ≠ a := fun w => z (R.inj j i a ⟨⟨s, c, h1, h2⟩, by rw [q1, w]⟩ hA)
        exact ⟨a', u, q1, q2, by rw [upd_ne ne]; exact q3, q4, CtOk.mono q5 sF⟩
    · by_cases z : b = a
      · subst z; exact absurd hA (n i)
      · rw [upd_ne z]; exact f
  | _ => exact e5.elim
theorem ej_frz (i : Nat) {n : Str} (hd : ρ[i]? = some (.ow (.lst ds)) := by rfl) (hN : X.N[i]? = some n := by rfl) (hv : Vis X.env.scope n := by first | exact Or.inl rfl | exact Or.inr (Or.inl rfl) | exact Or.inr (Or.inr rfl)) (hdb : (n == ("__debug__" : Str)) = false := by decide)
    (hcd : (n == ("__classdict__" : Str)) = false := by decide) : EJ X W (.Name n pos) ρ (.ok (ρ.set i (.va (.list ds))) (.va (.list ds))) := by
  refine ⟨_, pe_var hN hv hdb hcd, fun F H σ Q R h => ?_⟩
  obtain ⟨a, vs, e1, e2, e3, e4, R2, x, dp⟩ := re_frz R hd
  exact ⟨_, e1, h _ _ _ x R2 ⟨dp, fun _ _ z => nomatch z⟩⟩
/-- a fresh list as a value -/
theorem EJ.frz (h : EJ X W e ρ (.ok ρ1 (.ow (.lst ds)))) : EJ X W e ρ (.ok ρ1 (.va (.list ds))) := by
  obtain ⟨t, h1, h2⟩ := h
  refine ⟨t, h1, fun F H σ Q R q => h2 F H σ Q R fun F' H' v x R' r => ?_⟩
  obtain ⟨⟨a, u, rfl, f1, f2, f3, f4⟩, n⟩ := r
  have n := n _ a rfl rfl
  cases u with
  | lst vs =>
    have sF : Same F' (upd F' a (.lst vs)) := same_upd f1
    have dp : Dp X.K (upd F' a (.lst vs)) (.ref a) (.list ds) := .lst (SqL.of upd_same) (DpAll.mono (show DpAll X.K F' vs ds from f3) sF)
    refine q (upd F' a (.lst vs)) H' (.ref a) ⟨x.ff.trans sF, x.hh, fun b o g h m => ?_, x.ow, x.tr⟩ ⟨R'.len, fun b o h => ?_, fun j d h => ?_, fun j s c h1 h2 => ?_, R'.inj⟩ ⟨dp, fun _ _ z => nomatch z⟩
    · rw [upd_ne (ne_of_none h f4)]
      exact x.nf b o g h m
    · by_cases z : b = a
      · subst z; rw [upd_same] at h; cases h; exact f2
      · rw [upd_ne z] at h; exact R'.fh _ _ h
    · obtain ⟨v, q1, q2⟩ := R'.va j d h
      exact ⟨v, q1, Dp.mono q2 sF⟩
    · obtain ⟨a', u, q1, q2, q3, q4, q5⟩ := R'.ob j s c h1 h2
      have ne : a' ≠ a := fun w => n j ⟨⟨s, c, h1, h2⟩, by rw [q1, w]⟩
      exact ⟨a', u, q1, q2, by rw [upd_ne ne]; exact q3, q4, CtOk.mono q5 sF⟩
  | _ => exact f3.elim
theorem ej_int {i : Int} {j : Nat} : EJ X W (.Constant (.int i) j pos) ρ (.ok ρ (.va (.int i))) := ⟨_, pe_int, fun F H σ Q R h => h.fin R (Xt.refl R.fh) (.int i)⟩
theorem ej_bl {i : Bool} {j : Nat} : EJ X W (.Constant (.bool i) j pos) ρ (.ok ρ (.va (.bool i))) := ⟨_, pe_bl, fun F H σ Q R h => h.fin R (Xt.refl R.fh) (.bl i)⟩
theorem ej_non {j : Nat} : EJ X W (.Constant .none j pos) ρ (.ok ρ (.va .none)) := ⟨_, pe_non, fun F H σ Q R h => h.fin R (Xt.refl R.fh) .non⟩
theorem ej_str {i : Str} {j : Nat} : EJ X W (.Constant (.str i) j pos) ρ (.ok ρ (.va (.str i))) := ⟨_, pe_str, fun F H σ Q R h => h.fin R (Xt.refl R.fh) (.str i)⟩
/-- a constant of the module: u stands for d whatever is tracked -/
def GlV (K : PySem.W.Frag) (u : Value) (d : PD) : Prop := ∃ v, RelV v u ∧ ∀ F, Dp K F v d
theorem ej_glob {n : Str} {u : Value} (hm : X.mg n = some u) (hu : GlV X.K u d) (hg : Gl X n := by rfl) (hd : (n == ("__debug__" : Str)) = false := by decide) : EJ X W (.Name n pos) ρ (.ok ρ (.va d)) := by
  obtain ⟨v, r, q⟩ := hu
  exact ⟨_, pe_glob hg hm r hd, fun F H σ Q R h => h.fin R (Xt.refl R.fh) (q F)⟩

/-! ### operators by values -/
def P2 (K : PySem.W.Frag) (r : R2) (x y : PD) (z : Rs) : Prop := ∀ F H vx vy Q, Same F H → Dp K F vx x → Dp K F vy y → (∀ F' H' v, Xt F H F' H' → PRs K H F' H' v z → Q v H') → r vx vy H Q
def P1 (K : PySem.W.Frag) (r : V → Hp → VK → Prop) (x : PD) (z : Rs) : Prop := ∀ F H vx Q, Same F H → Dp K F vx x → (∀ F' H' v, Xt F H F' H' → PRs K H F' H' v z → Q v H') → r vx H Q
def PC (K : PySem.W.Frag) (r : List V → Hp → VK → Prop) (ds : List PD) (z : Rs) : Prop := ∀ F H vs Q, Same F H → DpAll K F vs ds → (∀ F' H' v, Xt F H F' H' → PRs K H F' H' v z → Q v H') → r vs H Q
theorem ej_op {op : Operator} {r : R2} (ho : OpR X (binaryOp op) r) (ha : EJ X W a ρ (.ok ρ1 (.va x))) (hb : EJ X W b ρ1 (.ok ρ2 (.va y))) (hp : P2 X.K r x y z) : EJ X W (.BinOp a op b pos) ρ (.ok ρ2 z) := by
  obtain ⟨ta, a1, a2⟩ := ha
  obtain ⟨tb, b1, b2⟩ := hb
  refine ⟨_, pe_op ho a1 b1, fun F H σ Q R h => a2 F H σ _ R fun F1 H1 v1 x1 R1 q1 => b2 F1 H1 σ _ R1 fun F2 H2 v2 x2 R2 q2 => ?_⟩
  exact hp F2 H2 v1 v2 Q R2.fh (Dp.mono q1.1 x2.ff) q2.1 fun F' H' v t q => (h.pull (x1.trans x2)).fin R2 t q
theorem ej_un {op : UnaryOp} {r : V → Hp → VK → Prop} (ho : UnR X (unaryOp op) r) (ha : EJ X W a ρ (.ok ρ1 (.va x))) (hp : P1 X.K r x z) : EJ X W (.UnaryOp op a pos) ρ (.ok ρ1 z) := by
  obtain ⟨ta, a1, a2⟩ := ha
  refine ⟨_, pe_un ho a1, fun F H σ Q R h => a2 F H σ _ R fun F1 H1 v1 x1 R1 q1 => ?_⟩
  exact hp F1 H1 v1 Q R1.fh q1.1 fun F' H' v t q => (h.pull x1).fin R1 t q
theorem ej_cmp {op : CmpOp} {r : R2} (ho : OpR X (compareOp op) r) (ha : EJ X W a ρ (.ok ρ1 (.va x))) (hb : EJ X W b ρ1 (.ok ρ2 (.va y))) (hp : P2 X.K r x y z) (hm : behindInMarks op b = false := by first | exact nomark _ | rfl) : EJ X W (.Compare a [op] [b] pos) ρ (.ok ρ2 z) := by
  obtain ⟨ta, a1, a2⟩ := ha
  obtain ⟨tb, b1, b2⟩ := hb
  refine ⟨_, pe_cmpR ho a1 b1 hm, fun F H σ Q R h => a2 F H σ _ R fun F1 H1 v1 x1 R1 q1 => b2 F1 H1 σ _ R1 fun F2 H2 v2 x2 R2 q2 => ?_⟩
  exact hp F2 H2 v1 v2 Q R2.fh (Dp.mono q1.1 x2.ff) q2.1 fun F' H' v t q => (h.pull (x1.trans x2)).fin R2 t q
theorem tj_cmp {op : CmpOp} {r : R2} {k : Bool} (ho : OpR X (compareOp op) r) (ha : EJ X W a ρ (.ok ρ1 (.va x))) (hb : EJ X W b ρ1 (.ok ρ2 (.va y))) (hp : P2 X.K r x y (.va (.bool k))) (hm : behindInMarks op b = false := by first | exact nomark _ | rfl) : TJ X W (.Compare a [op] [b] pos) ρ ρ2 k := by
  obtain ⟨ta, a1, a2⟩ := ha
  obtain ⟨tb, b1, b2⟩ := hb
  refine ⟨_, pt_cmpR ho a1 b1 hm, fun F H σ Q R h => a2 F H σ _ R fun F1 H1 v1 x1 R1 q1 => b2 F1 H1 σ _ R1 fun F2 H2 v2 x2 R2 q2 => ?_⟩
  refine hp F2 H2 v1 v2 _ R2.fh (Dp.mono q1.1 x2.ff) q2.1 fun F' H' v t q => ?_
  cases (show Dp X.K F' v (.bool k) from q)
  obtain ⟨R3, x3⟩ := R2.ext t
  exact ⟨k, rfl, h F' H' ((x1.trans x2).trans x3) R3⟩
theorem ej_chain {op op' : CmpOp} {r r' : R2} {k k' : Bool} {w : PD} (ho : OpR X (compareOp op) r) (ho' : OpR X (compareOp op') r') (ha : EJ X W a ρ (.ok ρ (.va x))) (hb : EJ X W b ρ (.ok ρ (.va y))) (hp : P2 X.K r x y (.va (.bool k)))
    (hc : k = true → EJ X W c ρ (.ok ρ (.va w))) (hp' : k = true → P2 X.K r' y w (.va (.bool k'))) (hm : lastMarks [op, op'] [b, c] = false := by with_unfolding_all rfl) : EJ X W (.Compare a [op, op'] [b, c] pos) ρ (.ok ρ (.va (.bool (k && k')))) := by
  obtain ⟨ta, a1, a2⟩ := ha
  obtain ⟨tb, b1, b2⟩ := hb
  cases k with
  | true =>
    obtain ⟨tc, c1, c2⟩ := hc rfl
    refine ⟨_, pe_chain ho ho' a1 b1 c1 hm, fun F H σ Q R h => a2 F H σ _ R fun F1 H1 v1 x1 R1 q1 => b2 F1 H1 σ _ R1 fun F2 H2 v2 x2 R2 q2 => ?_⟩
    refine hp F2 H2 v1 v2 _ R2.fh (Dp.mono q1.1 x2.ff) q2.1 fun F' H' v t q => ?_
    cases (show Dp X.K F' v (.bool true) from q)
    obtain ⟨R3, x3⟩ := R2.ext t
    refine ⟨true, rfl, ?_⟩
    rw [if_pos rfl]
    refine c2 F' H' σ _ R3 fun F4 H4 v4 x4 R4 q4 => ?_
    exact hp' rfl F4 H4 v2 v4 Q R4.fh (Dp.mono (Dp.mono q2.1 x3.ff) x4.ff) q4.1 fun F5 H5 v5 t5 q5 => (h.pull (((x1.trans x2).trans x3).trans x4)).fin R4 t5 q5
  | false =>
    refine ⟨_, pe_chain ho ho' a1 b1 (pe_never (e := c)) hm, fun F H σ Q R h => a2 F H σ _ R fun F1 H1 v1 x1 R1 q1 => b2 F1 H1 σ _ R1 fun F2 H2 v2 x2 R2 q2 => ?_⟩
    refine hp F2 H2 v1 v2 _ R2.fh (Dp.mono q1.1 x2.ff) q2.1 fun F' H' v t q => ?_
    cases (show Dp X.K F' v (.bool false) from q)
    refine ⟨false, rfl, ?_⟩
    rw [if_neg Bool.false_ne_true]
    exact (h.pull (x1.trans x2)).fin R2 t (.bl false)
theorem tj_chain {op op' : CmpOp} {r r' : R2} {k k' : Bool} {w : PD} (ho : OpR X (compareOp op) r) (ho' : OpR X (compareOp op') r') (ha : EJ X W a ρ (.ok ρ (.va x))) (hb : EJ X W b ρ (.ok ρ (.va y))) (hp : P2 X.K r x y (.va (.bool k)))
    (hc : k = true → EJ X W c ρ (.ok ρ (.va w))) (hp' : k = true → P2 X.K r' y w (.va (.bool k'))) (hm : lastMarks [op, op'] [b, c] = false := by with_unfolding_all rfl) : TJ X W (.Compare a [op, op'] [b, c] pos) ρ ρ (k && k') := by
  obtain ⟨ta, a1, a2⟩ := ha
  obtain ⟨tb, b1, b2⟩ := hb
  cases k with
  | true =>
    obtain ⟨tc, c1, c2⟩ := hc rfl
    refine ⟨_, pt_chain ho ho' a1 b1 c1 hm, fun F H σ Q R h => a2 F H σ _ R fun F1 H1 v1 x1 R1 q1 => b2 F1 H1 σ _ R1 fun F2 H2 v2 x2 R2 q2 => ?_⟩
    refine hp F2 H2 v1 v2 _ R2.fh (Dp.mono q1.1 x2.ff) q2.1 fun F' H' v t q => ?_
    cases (show Dp X.K F' v (.bool true) from q)
    obtain ⟨R3, x3⟩ := R2.ext t
    refine ⟨true, rfl, ?_⟩
    rw [if_pos rfl]
    refine c2 F' H' σ _ R3 fun F4 H4 v4 x4 R4 q4 => ?_
    refine hp' rfl F4 H4 v2 v4 _ R4.fh (Dp.mono (Dp.mono q2.1 x3.ff) x4.ff) q4.1 fun F5 H5 v5 t5 q5 => ?_
    cases (show Dp X.K F5 v5 (.bool k') from q5)
    obtain ⟨R5, x5⟩ := R4.ext t5
    exact ⟨k', rfl, h F5 H5 ((((x1.trans x2).trans x3).trans x4).trans x5) R5⟩
  | false =>
    refine ⟨_, pt_chain ho ho' a1 b1 (pe_never (e := c)) hm, fun F H σ Q R h => a2 F H σ _ R fun F1 H1 v1 x1 R1 q1 => b2 F1 H1 σ _ R1 fun F2 H2 v2 x2 R2 q2 => ?_⟩
    refine hp F2 H2 v1 v2 _ R2.fh (Dp.mono q1.1 x2.ff) q2.1 fun F' H' v t q => ?_
    cases (show Dp X.K F' v (.bool false) from q)
    obtain ⟨R3, x3⟩ := R2.ext t
    refine ⟨false, rfl, ?_⟩
    rw [if_neg Bool.false_ne_true]
    exact ⟨false, rfl, h F' H' ((x1.trans x2).trans x3) R3⟩

/-! ### tests -/
theorem tj_val {k : Bool} (h : EJ X W e ρ (.ok ρ1 (.va (.bool k)))) (he : ∀ whole, isTrue e X.env whole = (do let v ← whole; standAt e.pos; holding [v] (truthy v)) := by intro _; rfl) : TJ X W e ρ ρ1 k := by
  obtain ⟨t, h1, h2⟩ := h
  refine ⟨_, pt_val h1 he, fun F H σ Q R q => h2 F H σ _ R fun F1 H1 v1 x1 R1 q1 => ?_⟩
  cases (show Dp X.K F1 v1 (.bool k) from q1.1)
  exact ⟨k, rfl, q F1 H1 x1 R1⟩
/-- the truth of a value -/
def truP : PD → Bool
  | .none => false
  | .bool b => b
  | .int i => i != 0
  | .list ds => !ds.isEmpty
  | .tuple ds => !ds.isEmpty
  | _ => false
def truOk : PD → Bool
  | .str _ => false
  | .dict _ => false
  | _ => true
theorem DpAll.isEmpty {K : PySem.W.Frag} {F : Hp} {vs : List V} {ds : List PD} (h : DpAll K F vs ds) : vs.isEmpty = ds.isEmpty := by cases h <;> rfl
theorem tj_tru (h : EJ X W e ρ (.ok ρ1 (.va d))) (hd : truOk d = true) (he : ∀ whole, isTrue e X.env whole = (do let v ← whole; standAt e.pos; holding [v] (truthy v)) := by intro _; rfl) : TJ X W e ρ ρ1 (truP d) := by
  obtain ⟨t, h1, h2⟩ := h
  refine ⟨_, pt_truth h1 he, fun F H σ Q R q => h2 F H σ _ R fun F1 H1 v1 x1 R1 q1 => ⟨truP d, ?_, q F1 H1 x1 R1⟩⟩
  have g : Dp X.K F1 v1 d := q1.1
  cases g with
  | non => rfl
  | bl b => rfl
  | int i => rfl
  | str s => cases hd
  | lst hs ha => exact .inl ⟨_, Same.seq R1.fh hs, by rw [DpAll.isEmpty ha]; rfl⟩
  | tup hs ha => exact .inr (.inl ⟨_, Same.seqT R1.fh hs, by rw [DpAll.isEmpty ha]; rfl⟩)
/-- .. of an own list, by its name -/
theorem tj_truO (i : Nat) {n : Str} {s : Sl} (hd : ρ[i]? = some s) (hs : s.ct = some (.lst ds)) (hN : X.N[i]? = some n := by rfl) (hv : Vis X.env.scope n := by first | exact Or.inl rfl | exact Or.inr (Or.inl rfl) | exact Or.inr (Or.inr rfl)) (hdb : (n == ("__debug__" : Str)) = false := by decide)
    (hcd : (n == ("__classdict__" : Str)) = false := by decide) : TJ X W (.Name n pos) ρ ρ (!ds.isEmpty) := by
  refine ⟨_, pt_truth (pe_var hN hv hdb hcd) (by intro _; rfl), fun F H σ Q R q => ?_⟩
  obtain ⟨a, u, e1, _, e3, e4, e5⟩ := R.ob i s _ hd hs
  cases u with
  | lst vs => exact ⟨_, e1, _, .inl ⟨vs, SqL.of e4, rfl⟩, by rw [DpAll.isEmpty (show DpAll X.K F vs ds from e5)]; exact q F H Ext.refl R⟩
  | _ => exact e5.elim
theorem tj_not {k : Bool} (h : TJ X W a ρ ρ1 k) : TJ X W (.UnaryOp .Not a pos) ρ ρ1 (!k) := by
  obtain ⟨t, h1, h2⟩ := h
  exact ⟨_, pt_not h1, fun F H σ Q R q => h2 F H σ _ R q⟩
theorem WJ.tj {k : Bool} (h : WJ X W e ρ ρ1 k) : TJ X W e ρ ρ1 k := by
  obtain ⟨t, h1, h2⟩ := h
  exact ⟨t, h1.pt, h2⟩
theorem wj_and1 {k : Bool} (h : TJ X W a ρ ρ1 k) : WJ X W (.BoolOp .And [a] pos) ρ ρ1 k := by
  obtain ⟨t, h1, h2⟩ := h
  exact ⟨t, pw_and1 h1, h2⟩
theorem wj_or1 {k : Bool} (h : TJ X W a ρ ρ1 k) : WJ X W (.BoolOp .Or [a] pos) ρ ρ1 k := by
  obtain ⟨t, h1, h2⟩ := h
  exact ⟨t, pw_or1 h1, h2⟩
theorem wj_and {k k' : Bool} (h : TJ X W a ρ ρ k) (g : k = true → WJ X W (.BoolOp .And (b :: es) pos) ρ ρ k') : WJ X W (.BoolOp .And (a :: b :: es) pos) ρ ρ (k && k') := by
  obtain ⟨t, h1, h2⟩ := h
  cases k with
  | true =>
    obtain ⟨u, g1, g2⟩ := g rfl
    refine ⟨_, pw_and h1 g1, fun F H σ Q R q => h2 F H σ _ R fun F1 H1 x1 R1 => ?_⟩
    rw [if_pos rfl]
    exact g2 F1 H1 σ Q R1 fun F2 H2 x2 R2 => q F2 H2 (x1.trans x2) R2
  | false =>
    refine ⟨_, pw_and h1 (pw_never (e := .BoolOp .And (b :: es) pos)), fun F H σ Q R q => h2 F H σ _ R fun F1 H1 x1 R1 => ?_⟩
    rw [if_neg Bool.false_ne_true]
    exact q F1 H1 x1 R1
theorem wj_or {k k' : Bool} (h : TJ X W a ρ ρ k) (g : k = false → WJ X W (.BoolOp .Or (b :: es) pos) ρ ρ k') : WJ X W (.BoolOp .Or (a :: b :: es) pos) ρ ρ (k || k') := by
  obtain ⟨t, h1, h2⟩ := h
  cases k with
  | false =>
    obtain ⟨u, g1, g2⟩ := g rfl
    refine ⟨_, pw_or h1 g1, fun F H σ Q R q => h2 F H σ _ R fun F1 H1 x1 R1 => ?_⟩
    rw [if_neg Bool.false_ne_true]
    exact g2 F1 H1 σ Q R1 fun F2 H2 x2 R2 => q F2 H2 (x1.trans x2) R2
  | true =>
    refine ⟨_, pw_or h1 (pw_never (e := .BoolOp .Or (b :: es) pos)), fun F H σ Q R q => h2 F H σ _ R fun F1 H1 x1 R1 => ?_⟩
    rw [if_pos rfl]
    exact q F1 H1 x1 R1
theorem ej_one {op : BoolOp} {o : EO} (h : EJ X W a ρ o) : EJ X W (.BoolOp op [a] pos) ρ o := by
  obtain ⟨t, h1, h2⟩ := h
  exact ⟨t, pe_one h1, h2⟩
theorem ej_and {k k' : Bool} (h : EJ X W a ρ (.ok ρ (.va (.bool k)))) (g : k = true → EJ X W (.BoolOp .And (b :: es) pos) ρ (.ok ρ (.va (.bool k')))) : EJ X W (.BoolOp .And (a :: b :: es) pos) ρ (.ok ρ (.va (.bool (k && k')))) := by
  obtain ⟨t, h1, h2⟩ := h
  cases k with
  | true =>
    obtain ⟨u, g1, g2⟩ := g rfl
    refine ⟨_, pe_and h1 g1, fun F H σ Q R q => h2 F H σ _ R fun F1 H1 v1 x1 R1 q1 => ?_⟩
    cases (show Dp X.K F1 v1 (.bool true) from q1.1)
    refine ⟨true, rfl, ?_⟩
    rw [if_pos rfl]
    exact g2 F1 H1 σ Q R1 (q.pull x1)
  | false =>
    refine ⟨_, pe_and h1 (pe_never (e := .BoolOp .And (b :: es) pos)), fun F H σ Q R q => h2 F H σ _ R fun F1 H1 v1 x1 R1 q1 => ?_⟩
    cases (show Dp X.K F1 v1 (.bool false) from q1.1)
    refine ⟨false, rfl, ?_⟩
    rw [if_neg Bool.false_ne_true]
    exact (q.pull x1).fin R1 (Xt.refl R1.fh) (.bl false)
theorem ej_or {k k' : Bool} (h : EJ X W a ρ (.ok ρ (.va (.bool k)))) (g : k = false → EJ X W (.BoolOp .Or (b :: es) pos) ρ (.ok ρ (.va (.bool k')))) : EJ X W (.BoolOp .Or (a :: b :: es) pos) ρ (.ok ρ (.va (.bool (k || k')))) := by
  obtain ⟨t, h1, h2⟩ := h
  cases k with
  | false =>
    obtain ⟨u, g1, g2⟩ := g rfl
    refine ⟨_, pe_or h1 g1, fun F H σ Q R q => h2 F H σ _ R fun F1 H1 v1 x1 R1 q1 => ?_⟩
    cases (show Dp X.K F1 v1 (.bool false) from q1.1)
    refine ⟨false, rfl, ?_⟩
    rw [if_neg Bool.false_ne_true]
    exact g2 F1 H1 σ Q R1 (q.pull x1)
  | true =>
    refine ⟨_, pe_or h1 (pe_never (e := .BoolOp .Or (b :: es) pos)), fun F H σ Q R q => h2 F H σ _ R fun F1 H1 v1 x1 R1 q1 => ?_⟩
    cases (show Dp X.K F1 v1 (.bool true) from q1.1)
    refine ⟨true, rfl, ?_⟩
    rw [if_pos rfl]
    exact (q.pull x1).fin R1 (Xt.refl R1.fh) (.bl true)
theorem ej_not {k : Bool} (h : EJ X W a ρ (.ok ρ1 (.va (.bool k)))) : EJ X W (.UnaryOp .Not a pos) ρ (.ok ρ1 (.va (.bool (!k)))) := by
  obtain ⟨t, h1, h2⟩ := h
  refine ⟨_, pe_not h1, fun F H σ Q R q => h2 F H σ _ R fun F1 H1 v1 x1 R1 q1 => ?_⟩
  cases (show Dp X.K F1 v1 (.bool k) from q1.1)
  exact ⟨k, rfl, (q.pull x1).fin R1 (Xt.refl R1.fh) (.bl _)⟩
theorem ej_if {k : Bool} {o : EO} (h : TJ X W c ρ ρ1 k) (ha : k = true → EJ X W a ρ1 o) (hb : k = false → EJ X W b ρ1 o) : EJ X W (.IfExp c a b pos) ρ o := by
  obtain ⟨t, h1, h2⟩ := h
  cases k with
  | true =>
    obtain ⟨u, g1, g2⟩ := ha rfl
    refine ⟨_, pe_ifExp h1 g1 (pe_never (e := b)), fun F H σ Q R q => h2 F H σ _ R fun F1 H1 x1 R1 => ?_⟩
    rw [if_pos rfl]
    exact g2 F1 H1 σ Q R1 (q.pull x1)
  | false =>
    obtain ⟨u, g1, g2⟩ := hb rfl
    refine ⟨_, pe_ifExp h1 (pe_never (e := a)) g1, fun F H σ Q R q => h2 F H σ _ R fun F1 H1 x1 R1 => ?_⟩
    rw [if_neg Bool.false_ne_true]
    exact g2 F1 H1 σ Q R1 (q.pull x1)

/-! ### argument lists, displays -/
theorem aj_nil : AJ X W [] ρ ρ [] := ⟨_, pa_nil, fun F H σ Q R h => h F H [] Ext.refl R .nil⟩
theorem aj_cons (h : EJ X W e ρ (.ok ρ1 (.va d))) (g : AJ X W es ρ1 ρ2 ds) (hs : starEach (e :: es) X.env = (false, eval e X.env) :: starEach es X.env := by rfl) : AJ X W (e :: es) ρ ρ2 (d :: ds) := by
  obtain ⟨t, h1, h2⟩ := h
  obtain ⟨u, g1, g2⟩ := g
  refine ⟨_, pa_cons h1 g1 hs, fun F H σ Q R q => h2 F H σ _ R fun F1 H1 v1 x1 R1 q1 => g2 F1 H1 σ _ R1 fun F2 H2 vs x2 R2 q2 => ?_⟩
  exact q F2 H2 _ (x1.trans x2) R2 (.cons (Dp.mono q1.1 x2.ff) q2)
theorem ej_tup {k : Nat} (h : AJ X W es ρ ρ1 ds) (hz : ds.length ≤ sizeLine := by first | decide | (rw [sizeLine_eq]; simp)) : EJ X W (.Tuple es k pos) ρ (.ok ρ1 (.va (.tuple ds))) := by
  obtain ⟨t, h1, h2⟩ := h
  refine ⟨_, pe_tup h1, fun F H σ Q R q => h2 F H σ _ R fun F1 H1 vs x1 R1 q1 => ⟨by rw [DpAll.len q1]; exact hz, fun p np => ?_⟩⟩
  exact (q.pull x1).fin R1 (Xt.frz R1.fh np) (.tup (SqT.of upd_same) (DpAll.mono q1 (Xt.frz R1.fh np).ff))
theorem ej_lst (h : AJ X W es ρ ρ1 ds) (hz : ds.length ≤ sizeLine := by first | decide | (rw [sizeLine_eq]; simp)) : EJ X W (.List es pos) ρ (.ok ρ1 (.ow (.lst ds))) := by
  obtain ⟨t, h1, h2⟩ := h
  refine ⟨_, pe_lst h1, fun F H σ Q R q => h2 F H σ _ R fun F1 H1 vs x1 R1 q1 => ⟨by rw [DpAll.len q1]; exact hz, fun p np => ?_⟩⟩
  exact (q.pull x1).fin R1 (Xt.own R1.fh np) ⟨p, _, rfl, Same.free R1.fh np, upd_same, q1, np⟩

/-! ### subscripts and slices -/
theorem ej_ix {r : R2} (hr : IxR X r) (ha : EJ X W a ρ (.ok ρ1 (.va x))) (hb : EJ X W b ρ1 (.ok ρ2 (.va y))) (hp : P2 X.K r x y z) (hs : PlainIx b := by exact fun _ _ => rfl) : EJ X W (.Subscript a b pos) ρ (.ok ρ2 z) := by
  obtain ⟨ta, a1, a2⟩ := ha
  obtain ⟨tb, b1, b2⟩ := hb
  refine ⟨_, pe_ix hr a1 b1 hs, fun F H σ Q R h => a2 F H σ _ R fun F1 H1 v1 x1 R1 q1 => b2 F1 H1 σ _ R1 fun F2 H2 v2 x2 R2 q2 => ?_⟩
  exact hp F2 H2 v1 v2 Q R2.fh (Dp.mono q1.1 x2.ff) q2.1 fun F' H' v t q => (h.pull (x1.trans x2)).fin R2 t q
/-- an item of an own list, by its name -/
theorem ej_ixO (i : Nat) {n : Str} {s : Sl} {j : Int} {pn : Pos} (hb : EJ X W b ρ (.ok ρ1 (.va (.int j)))) (hd : ρ1[i]? = some s) (hs : s.ct = some (.lst ds)) (hd0 : ∃ s0 c0, ρ[i]? = some s0 ∧ s0.ct = some c0) (hj : atI ds j = some d) (hN : X.N[i]? = some n := by rfl)
    (hv : Vis X.env.scope n := by first | exact Or.inl rfl | exact Or.inr (Or.inl rfl) | exact Or.inr (Or.inr rfl)) (hdb : (n == ("__debug__" : Str)) = false := by decide) (hcd : (n == ("__classdict__" : Str)) = false := by decide) (hpx : PlainIx b := by exact fun _ _ => rfl) : EJ X W (.Subscript (.Name n pn) b pos) ρ (.ok ρ1 (.va d)) := by
  obtain ⟨tb, b1, b2⟩ := hb
  refine ⟨_, pe_ix ix_list (pe_var hN hv hdb hcd) b1 hpx, fun F H σ Q R h => ?_⟩
  obtain ⟨s0, c0, g1, g2⟩ := hd0
  obtain ⟨a0, u0, z1, _⟩ := R.ob i s0 c0 g1 g2
  refine ⟨_, z1, b2 F H σ _ R fun F1 H1 v1 x1 R1 q1 => ?_⟩
  obtain ⟨a, u, e1, _, e3, e4, e5⟩ := R1.ob i s _ hd hs
  rw [z1] at e1
  cases e1
  cases (show Dp X.K F1 v1 (.int j) from q1.1)
  cases u with
  | lst vs =>
    have e5 : DpAll X.K F1 vs ds := e5
    obtain ⟨k, hk1, hk2⟩ : ∃ k, ixN ds.length j = some k ∧ ds[k]? = some d := by
      unfold atI at hj
      cases hk : ixN ds.length j with
      | none => rw [hk] at hj; cases hj
      | some k => rw [hk] at hj; exact ⟨k, rfl, hj⟩
    obtain ⟨v, f1, f2⟩ := DpAll.get e5 hk2
    refine ⟨a0, vs, j, v, rfl, rfl, SqL.of e4, ?_, h _ _ _ x1 R1 ⟨f2, fun _ _ z => nomatch z⟩⟩
    unfold atI
    rw [DpAll.len e5, hk1]
    exact f1
  | _ => exact e5.elim
def OJ (X : Cx) (W : WX) (e : Option Expr) (ρ ρ' : En) (k : Option Int) : Prop := ∃ t, PO X e t ∧ ∀ F H σ Q, RE X.K F H σ ρ → (∀ F' H', Ext σ ρ F H σ ρ' F' H' → RE X.K F' H' σ ρ' → Q k H') → t σ H Q
theorem oj_none : OJ X W none ρ ρ none := ⟨_, po_none, fun F H σ Q R h => h F H Ext.refl R⟩
theorem oj_some {i : Int} (h : EJ X W e ρ (.ok ρ1 (.va (.int i)))) : OJ X W (some e) ρ ρ1 (some i) := by
  obtain ⟨t, h1, h2⟩ := h
  refine ⟨_, po_some h1, fun F H σ Q R q => h2 F H σ _ R fun F1 H1 v1 x1 R1 q1 => ?_⟩
  cases (show Dp X.K F1 v1 (.int i) from q1.1)
  exact ⟨i, rfl, q F1 H1 x1 R1⟩
def cutL {α : Type} (xs : List α) (lo hi : Option Int) : List α := (xs.drop (HT.sIx xs.length 0 lo)).take (HT.sIx xs.length xs.length hi - HT.sIx xs.length 0 lo)
theorem DpAll.cut {K : PySem.W.Frag} {F : Hp} {vs : List V} {ds : List PD} (h : DpAll K F vs ds) (lo hi : Option Int) : DpAll K F (cutV vs lo hi) (cutL ds lo hi) := by
  unfold cutV cutL
  rw [DpAll.len h]
  exact DpAll.take (DpAll.drop h _) _
def PSl (K : PySem.W.Frag) (r : V → Option Int → Option Int → Hp → VK → Prop) (x : PD) (lo hi : Option Int) (z : Rs) : Prop := ∀ F H vx Q, Same F H → Dp K F vx x → (∀ F' H' v, Xt F H F' H' → PRs K H F' H' v z → Q v H') → r vx lo hi H Q
theorem ej_sl {r : V → Option Int → Option Int → Hp → VK → Prop} {lo hi : Option Expr} {l h : Option Int} {p2 : Pos} (hr : SlR X r) (ha : EJ X W a ρ (.ok ρ1 (.va x))) (hl : OJ X W lo ρ1 ρ2 l) (hh : OJ X W hi ρ2 ρ3 h) (hp : PSl X.K r x l h z) : EJ X W (.Subscript a (.Slice lo hi none p2) pos) ρ (.ok ρ3 z) := by
  obtain ⟨ta, a1, a2⟩ := ha
  obtain ⟨tl, l1, l2⟩ := hl
  obtain ⟨th, h1, h2⟩ := hh
  refine ⟨_, pe_slice hr a1 l1 h1, fun F H σ Q R q => a2 F H σ _ R fun F1 H1 v1 x1 R1 q1 => l2 F1 H1 σ _ R1 fun F2 H2 x2 R2 => h2 F2 H2 σ _ R2 fun F3 H3 x3 R3 => ?_⟩
  exact hp F3 H3 v1 Q R3.fh (Dp.mono (Dp.mono q1.1 x2.ff) x3.ff) fun F' H' v t q' => (q.pull ((x1.trans x2).trans x3)).fin R3 t q'
theorem psl_list {lo hi : Option Int} : PSl X.K (rSlL X.K) (.list ds) lo hi (.ow (.lst (cutL ds lo hi))) := fun F H vx Q e hx q => by
  cases hx with
  | lst hs ha => exact ⟨_, _, rfl, Same.seq e hs, fun p np => q _ _ _ (Xt.own e np) ⟨p, _, rfl, Same.free e np, upd_same, DpAll.cut ha lo hi, np⟩⟩
theorem psl_tup {lo hi : Option Int} : PSl X.K (rSlA X.K) (.tuple ds) lo hi (.va (.tuple (cutL ds lo hi))) := fun F H vx Q e hx q => by
  cases hx with
  | @tup a vs _ hs ha =>
    refine ⟨_, _, rfl, Same.seqT e hs, fun hw => ?_, fun _ p np => ?_⟩
    · have : cutL ds lo hi = ds := by
        unfold cutL
        rw [← DpAll.len ha, hw.1, hw.2, DpAll.len ha]
        simp
      rw [this] at q
      exact q F H _ (Xt.refl e) (.tup hs ha)
    · exact q _ _ _ (Xt.frz e np) (.tup (SqT.of upd_same) (DpAll.mono (DpAll.cut ha lo hi) (Xt.frz e np).ff))
end
end Pj
set_option Elab.async false
set_option linter.all false
set_option maxRecDepth 100000
namespace Pj
open PySem PySem.Spec PyProof.Rows L2

/-! ### what a def's body may lean on -/
structure Md where
  P : Program
  w : World
  K : PySem.W.Frag
  mg : Str → Option Value
  base : Heap
abbrev md (X : Cx) : Md := ⟨X.prog, X.w, X.K, X.mg, X.base⟩
structure Ok (X : Cx) (W : WX) (lv : Nat) : Prop where
  calm : X.calm = true
  pass : PassesOwn (model X.prog X.w) X.A X.env X.xe
  takes : Takes X W
  nd : X.N.Nodup
  room : Room lv X.A
abbrev W0 : WX := fun _ _ _ _ => False
theorem Ok.blk {X : Cx} {W : WX} {lv : Nat} (C : Ok X W lv) {s : Shared} {H : Hp} {scope : Scope} {ce : Env} {fp : List Addr} : Ok (X.blk s H scope ce fp) W0 lv :=
  ⟨C.calm, PassesOwn.never, takes0, C.nd, C.room⟩

/-! ### promises -/
inductive PO where
  | ok (r : Rs)
  | ex (n : Str) (p : Option (Str × PD))
def PPost (K : PySem.W.Frag) (mg : Str → Option Value) (F H : Hp) (Q : VK) (E : XK) : PO → Prop
  | .ok r => ∀ F' H' v, Xt F H F' H' → PRs K H F' H' v r → Q v H'
  | .ex n p => ∀ F' H', Xt F H F' H' → XCond K mg F' H' n p E
/-- a def that changes nothing -/
def spP (K : PySem.W.Frag) (mg : Str → Option Value) (Mf : List PD → PO → Prop) : Sp := fun vs H Q E => ∃ F ds o, Mf ds o ∧ Same F H ∧ DpAll K F vs ds ∧ PPost K mg F H Q E o
/-- what a call leaves that has changed the thing at a alone -/
structure XtB (a : Addr) (F H F' H' : Hp) : Prop where
  ff : Same F F'
  hh : ∀ b o, H b = some o → b ≠ a → H' b = some o
  fh : Same F' H'
  nf : ∀ b o, F b = none → H b = some o → F' b = none
def BPost (K : PySem.W.Frag) (mg : Str → Option Value) (a : Addr) (F H : Hp) (Q : VK) (E : XK) (c' : Ct) : PO → Prop
  | .ok r => ∀ F' H' v u, XtB a F H F' H' → H' a = some u → CtOk K F' u c' → PRs K H F' H' v r → Q v H'
  | .ex n p => ∀ F' H' u, XtB a F H F' H' → H' a = some u → CtOk K F' u c' → XCond K mg F' H' n p E
/-- a def that changes its first argument -/
def spB (K : PySem.W.Frag) (mg : Str → Option Value) (Mf : Ct → List PD → Ct → PO → Prop) : Sp := fun vs H Q E => ∃ F a u c vs' ds c' o, vs = .ref a :: vs' ∧ Mf c ds c' o ∧ Same F H ∧ F a = none ∧ H a = some u ∧ CtOk K F u c ∧ DpAll K F vs' ds ∧ BPost K mg a F H Q E c' o
structure Def (M : Md) (n : Str) (k : Nat) (sp : Sp) : Prop where
  ex : ∃ f fd ps, M.mg n = some (.ref f) ∧ PySem.W.keepIn M.K (.ref f) = true ∧ Binds M.K fd ps [] ∧ FnOk M.P M.w M.K M.mg M.base (L2.CX M.P M.w) k f fd ps sp

section
variable {X : Cx} {W : WX} {lv k : Nat} {e : Expr} {es : List Expr} {ρ ρ1 : En} {ds : List PD} {z : Rs} {n : Str} {p pos : Pos}
theorem ej_callAny {Mf : List PD → PO → Prop} {o : PO} (C : Ok X W lv) (D : Def (md X) n k (spP X.K X.mg Mf)) (ha : AJ X W (e :: es) ρ ρ1 ds) (hM : Mf ds o) (hk : k ≤ lv) (hg : Gl X n)
    (hdb : (n == ("__debug__" : Str)) = false) (he : starEach (e :: es) X.env = (false, eval e X.env) :: starEach es X.env) (hpl : (backTo pos (starEach es X.env)).any (·.1) = false) :
    EJ X W (.Call (.Name n p) (e :: es) [] pos) ρ (match o with | .ok r => .ok ρ1 r | .ex n p => .ex ρ1 n p) := by
  obtain ⟨f, fd, ps, h1, h2, h3, h4⟩ := D.ex
  obtain ⟨t, a1, a2⟩ := ha
  refine ⟨_, pe_callS h4 (C.room.mono hk) hg h1 h2 h3 (fun σ => passAt C.takes σ) a1 hdb he hpl, fun F H σ Q R h => a2 F H σ _ R fun F1 H1 vs x1 R1 q1 => ⟨F1, ds, o, hM, R1.fh, q1, ?_⟩⟩
  cases o with
  | ok r => exact fun F' H' v t q => (h.pull x1).fin R1 t q
  | ex m q =>
    intro F' H' t
    obtain ⟨R2, x2⟩ := R1.ext t
    exact h F' H' (x1.trans x2) R2
theorem ej_call {Mf : List PD → PO → Prop} (C : Ok X W lv) (D : Def (md X) n k (spP X.K X.mg Mf)) (ha : AJ X W (e :: es) ρ ρ1 ds) (hM : Mf ds (.ok z)) (hk : k ≤ lv := by decide) (hg : Gl X n := by rfl)
    (hdb : (n == ("__debug__" : Str)) = false := by decide) (he : starEach (e :: es) X.env = (false, eval e X.env) :: starEach es X.env := by rfl) (hpl : (backTo pos (starEach es X.env)).any (·.1) = false := by rfl) :
    EJ X W (.Call (.Name n p) (e :: es) [] pos) ρ (.ok ρ1 z) := ej_callAny (o := .ok z) C D ha hM hk hg hdb he hpl
theorem ej_callX {Mf : List PD → PO → Prop} {m : Str} {q : Option (Str × PD)} (C : Ok X W lv) (D : Def (md X) n k (spP X.K X.mg Mf)) (ha : AJ X W (e :: es) ρ ρ1 ds) (hM : Mf ds (.ex m q)) (hk : k ≤ lv := by decide) (hg : Gl X n := by rfl)
    (hdb : (n == ("__debug__" : Str)) = false := by decide) (he : starEach (e :: es) X.env = (false, eval e X.env) :: starEach es X.env := by rfl) (hpl : (backTo pos (starEach es X.env)).any (·.1) = false := by rfl) :
    EJ X W (.Call (.Name n p) (e :: es) [] pos) ρ (.ex ρ1 m q) := ej_callAny (o := .ex m q) C D ha hM hk hg hdb he hpl
end

/-! ### a slot stored -/
section
variable {K : PySem.W.Frag} {F H : Hp} {σ : L2.St} {ρ : En}
theorem OwAt.set_ne {i j : Nat} {a : Addr} {s : Sl} {v : Option V} (h : OwAt (σ.set i v) (ρ.set i s) j a) (e : j ≠ i) : OwAt σ ρ j a := by
  obtain ⟨⟨s', c, h1, h2⟩, h3⟩ := h
  rw [List.getElem?_set_ne (Ne.symm e)] at h1 h3
  exact ⟨⟨s', c, h1, h2⟩, h3⟩
def Rs.sl : Rs → Sl
  | .va d => .va d
  | .ow c => .ow c
theorem RE.set {H0 : Hp} {i : Nat} {v : V} {r : Rs} (R : RE K F H σ ρ) (hi : i < ρ.length) (q : RsOk K H0 F H σ ρ v r) :
    RE K F H (σ.set i (some v)) (ρ.set i r.sl) ∧ ∀ j a, OwAt (σ.set i (some v)) (ρ.set i r.sl) j a → OwAt σ ρ j a ∨ H0 a = none := by
  have hiσ : i < σ.length := by rw [R.len]; exact hi
  have self : ∀ a, OwAt (σ.set i (some v)) (ρ.set i r.sl) i a → v = .ref a ∧ ∃ c, r = .ow c := fun a ⟨⟨s, c, h1, h2⟩, h3⟩ => by
    rw [List.getElem?_set_self hi] at h1
    rw [List.getElem?_set_self hiσ] at h3
    cases h3
    refine ⟨rfl, ?_⟩
    cases r with
    | va d => cases h1; cases h2
    | ow c => exact ⟨c, rfl⟩
  refine ⟨⟨by rw [List.length_set, List.length_set]; exact R.len, R.fh, fun j d h => ?_, fun j s c h1 h2 => ?_, fun j k a h1 h2 => ?_⟩, fun j a h => ?_⟩
  · by_cases e : j = i
    · subst e
      rw [List.getElem?_set_self hi] at h
      rw [List.getElem?_set_self hiσ]
      cases r with
      | va d' => cases h; exact ⟨v, rfl, q.1⟩
      | ow c => cases h
    · rw [List.getElem?_set_ne (Ne.symm e)] at h ⊢
      exact R.va j d h
  · by_cases e : j = i
    · subst e
      rw [List.getElem?_set_self hi] at h1
      rw [List.getElem?_set_self hiσ]
      cases r with
      | va d' => cases h1; cases h2
      | ow c' =>
        cases h1
        cases h2
        obtain ⟨a, u, rfl, f1, f2, f3, _⟩ := q.1
        exact ⟨a, u, rfl, trivial, f1, f2, f3⟩
    · rw [List.getElem?_set_ne (Ne.symm e)] at h1 ⊢
      exact R.ob j s c h1 h2
  · by_cases e : j = i
    · by_cases e' : k = i
      · rw [e, e']
      · subst e
        obtain ⟨z, c, zc⟩ := self a h1
        exact absurd (h2.set_ne e') (q.2 c a zc z k)
    · by_cases e' : k = i
      · subst e'
        obtain ⟨z, c, zc⟩ := self a h2
        exact absurd (h1.set_ne e) (q.2 c a zc z j)
      · exact R.inj j k a (h1.set_ne e) (h2.set_ne e')
  · by_cases e : j = i
    · subst e
      obtain ⟨z, c, zc⟩ := self a h
      subst zc
      obtain ⟨a', u, z', f1, f2, f3, f4⟩ := q.1
      rw [z'] at z
      cases z
      exact .inr f4
    · exact .inl (h.set_ne e)
theorem Ext.set {F0 H0 : Hp} {σ0 : L2.St} {ρ0 : En} {i : Nat} {v : V} {r : Rs} (x : Ext σ0 ρ0 F0 H0 σ ρ F H) (h : ∀ j a, OwAt (σ.set i (some v)) (ρ.set i r.sl) j a → OwAt σ ρ j a ∨ H0 a = none) : Ext σ0 ρ0 F0 H0 (σ.set i (some v)) (ρ.set i r.sl) F H := by
  refine ⟨x.ff, x.hh, x.nf, fun j a q => ?_, x.tr⟩
  rcases h j a q with z | z
  · exact x.ow j a z
  · exact .inr z
/-- slots forgotten -/
def Le (ρ' ρ : En) : Prop := ρ'.length = ρ.length ∧ ∀ (i : Nat) (s : Sl), ρ'[i]? = some s → s = Sl.un ∨ ρ[i]? = some s
theorem Le.refl : Le ρ ρ := ⟨rfl, fun _ _ h => .inr h⟩
theorem Le.ow {ρ' : En} (l : Le ρ' ρ) {i : Nat} {a : Addr} (h : OwAt σ ρ' i a) : OwAt σ ρ i a := by
  obtain ⟨⟨s, c, h1, h2⟩, h3⟩ := h
  rcases l.2 i s h1 with z | z
  · subst z; cases h2
  · exact ⟨⟨s, c, z, h2⟩, h3⟩
theorem RE.le {ρ' : En} (R : RE K F H σ ρ) (l : Le ρ' ρ) : RE K F H σ ρ' := by
  refine ⟨R.len.trans l.1.symm, R.fh, fun i d h => ?_, fun i s c h1 h2 => ?_, fun i j a h1 h2 => R.inj i j a (l.ow h1) (l.ow h2)⟩
  · rcases l.2 i _ h with z | z
    · cases z
    · exact R.va i d z
  · rcases l.2 i _ h1 with z | z
    · subst z; cases h2
    · exact R.ob i s c z h2
theorem Ext.le {F0 H0 : Hp} {σ0 : L2.St} {ρ0 ρ' : En} (x : Ext σ0 ρ0 F0 H0 σ ρ F H) (l : Le ρ' ρ) : Ext σ0 ρ0 F0 H0 σ ρ' F H :=
  ⟨x.ff, x.hh, x.nf, fun i a h => x.ow i a (l.ow h), x.tr⟩
/-- .. the slots of a block's own names -/
theorem re_wipe {σ' : L2.St} {ρ' : En} (R : RE K F H σ ρ) (hl : σ'.length = σ.length) (hl' : ρ'.length = ρ.length) (h : ∀ i : Nat, (σ'[i]? = σ[i]? ∧ ρ'[i]? = ρ[i]?) ∨ ∀ s : Sl, ρ'[i]? = some s → s = Sl.un) : RE K F H σ' ρ' := by
  have ow : ∀ i a, OwAt σ' ρ' i a → OwAt σ ρ i a := fun i a ⟨⟨s, c, h1, h2⟩, h3⟩ => by
    rcases h i with ⟨z1, z2⟩ | z
    · exact ⟨⟨s, c, z2 ▸ h1, h2⟩, z1 ▸ h3⟩
    · rw [z s h1] at h2; cases h2
  refine ⟨by rw [hl, hl', R.len], R.fh, fun i d e => ?_, fun i s c h1 h2 => ?_, fun i j a h1 h2 => R.inj i j a (ow i a h1) (ow j a h2)⟩
  · rcases h i with ⟨z1, z2⟩ | z
    · rw [z1]; exact R.va i d (z2 ▸ e)
    · cases z _ e
  · rcases h i with ⟨z1, z2⟩ | z
    · rw [z1]; exact R.ob i s c (z2 ▸ h1) h2
    · rw [z s h1] at h2; cases h2
end

/-! ### statements -/
section
variable {X : Cx} {W : WX} {lv : Nat} {e a b c : Expr} {es : List Expr} {ρ ρ1 ρ2 ρ3 : En} {d x y : PD} {ds : List PD} {z : Rs} {n : Str} {pos p : Pos} {st : Stmt} {sts : List Stmt} {o : SO}
theorem bj_nil : BJ X W [] ρ (.nx ρ) := ⟨_, pss_nil, fun F H σ D R h => h F H σ Ext.refl R⟩
theorem bj_one (h : SJ X W st ρ o) : BJ X W [st] ρ o := by
  obtain ⟨t, h1, h2⟩ := h
  exact ⟨t, pss_one h1, h2⟩
theorem bj_cons (h : SJ X W st ρ (.nx ρ1)) (g : BJ X W sts ρ1 o) : BJ X W (st :: sts) ρ o := by
  obtain ⟨t, h1, h2⟩ := h
  obtain ⟨u, g1, g2⟩ := g
  exact ⟨_, pss_cons h1 g1, fun F H σ D R q => h2 F H σ _ R fun F1 H1 σ1 x1 R1 => g2 F1 H1 σ1 D R1 (q.pull x1)⟩
/-- a statement that does not go on -/
def SO.out : SO → Prop
  | .nx _ => False
  | _ => True
theorem bj_out (h : SJ X W st ρ o) (ho : o.out := by trivial) : BJ X W (st :: sts) ρ o := by
  obtain ⟨t, h1, h2⟩ := h
  refine ⟨_, pss_cons h1 (pss_never (sts := sts)), fun F H σ D R q => h2 F H σ _ R ?_⟩
  cases o with
  | nx _ => exact ho.elim
  | rt _ _ => exact q
  | bk _ => exact q
  | ct _ => exact q
  | ex _ _ _ => exact q
theorem BJ.le (h : BJ X W sts ρ (.nx ρ1)) (l : Le ρ2 ρ1) : BJ X W sts ρ (.nx ρ2) := by
  obtain ⟨t, h1, h2⟩ := h
  exact ⟨t, h1, fun F H σ D R q => h2 F H σ D R fun F' H' σ' x R' => q F' H' σ' (x.le l) (R'.le l)⟩
theorem SJ.le (h : SJ X W st ρ (.nx ρ1)) (l : Le ρ2 ρ1) : SJ X W st ρ (.nx ρ2) := by
  obtain ⟨t, h1, h2⟩ := h
  exact ⟨t, h1, fun F H σ D R q => h2 F H σ D R fun F' H' σ' x R' => q F' H' σ' (x.le l) (R'.le l)⟩
theorem sj_doc {j : Nat} {s : Str} {pos' : Pos} : SJ X W (.Expr (.Constant (.str s) j pos) pos') ρ (.nx ρ) := ⟨_, ps_doc, fun F H σ D R h => h F H σ Ext.refl R⟩
theorem sj_pass : SJ X W (.Pass pos) ρ (.nx ρ) := ⟨_, ps_pass, fun F H σ D R h => h F H σ Ext.refl R⟩
/-- name = e -/
theorem sj_set (i : Nat) {pos' : Pos} (C : Ok X W lv) (he : EJ X W e ρ (.ok ρ1 z)) (hi : X.N[i]? = some n := by rfl) (hlt : i < ρ1.length := by exact Nat.le_of_ble_eq_true rfl) (hx : Loc X.env.scope n := by first | exact Or.inl rfl | exact Or.inr rfl)
    (hs : swapsWith e (some (.Name n pos')) pos.line X.env = pure false := by rfl) (hf : X.fn n = true ∨ X.env.scope.names.lookup n = some .local := by first | exact .inl rfl | exact .inr rfl) :
    SJ X W (.Assign [.Name n pos'] e pos) ρ (.nx (ρ1.set i z.sl)) := by
  obtain ⟨t, h1, h2⟩ := he
  refine ⟨_, ps_set C.nd hi hx h1 hs hf, fun F H σ D R q => h2 F H σ _ R fun F1 H1 v x1 R1 q1 => ?_⟩
  obtain ⟨R2, g⟩ := R1.set hlt q1
  exact q F1 H1 _ (x1.set g) R2
theorem sj_setX (i : Nat) {pos' : Pos} {m : Str} {q : Option (Str × PD)} (C : Ok X W lv) (he : EJ X W e ρ (.ex ρ1 m q)) (hi : X.N[i]? = some n := by rfl) (hx : Loc X.env.scope n := by first | exact Or.inl rfl | exact Or.inr rfl)
    (hs : swapsWith e (some (.Name n pos')) pos.line X.env = pure false := by rfl) (hf : X.fn n = true ∨ X.env.scope.names.lookup n = some .local := by first | exact .inl rfl | exact .inr rfl) :
    SJ X W (.Assign [.Name n pos'] e pos) ρ (.ex ρ1 m q) := by
  obtain ⟨t, h1, h2⟩ := he
  exact ⟨_, ps_set C.nd hi hx h1 hs hf, fun F H σ D R q => h2 F H σ _ R fun F' H' x R' => q F' H' σ x R'⟩
theorem sj_ret (he : EJ X W e ρ (.ok ρ1 z)) : SJ X W (.Return (some e) pos) ρ (.rt ρ1 z) := by
  obtain ⟨t, h1, h2⟩ := he
  exact ⟨_, ps_ret h1, fun F H σ D R q => h2 F H σ _ R fun F1 H1 v x1 R1 q1 => q F1 H1 σ v x1 R1 q1⟩
theorem sj_retX {m : Str} {q : Option (Str × PD)} (he : EJ X W e ρ (.ex ρ1 m q)) : SJ X W (.Return (some e) pos) ρ (.ex ρ1 m q) := by
  obtain ⟨t, h1, h2⟩ := he
  exact ⟨_, ps_ret h1, fun F H σ D R q => h2 F H σ _ R fun F1 H1 x1 R1 => q F1 H1 σ x1 R1⟩
theorem sj_retN : SJ X W (.Return none pos) ρ (.rt ρ (.va .none)) := ⟨_, ps_retN, fun F H σ D R q => q F H σ .non Ext.refl R ⟨.non, fun _ _ z => nomatch z⟩⟩
theorem sj_expr (he : EJ X W e ρ (.ok ρ1 z)) (hs : swapsWith e none pos.line X.env = pure false := by rfl) : SJ X W (.Expr e pos) ρ (.nx ρ1) := by
  obtain ⟨t, h1, h2⟩ := he
  exact ⟨_, ps_expr h1 hs, fun F H σ D R q => h2 F H σ _ R fun F1 H1 v x1 R1 q1 => q F1 H1 σ x1 R1⟩
theorem sj_exprX {m : Str} {q : Option (Str × PD)} (he : EJ X W e ρ (.ex ρ1 m q)) (hs : swapsWith e none pos.line X.env = pure false := by rfl) : SJ X W (.Expr e pos) ρ (.ex ρ1 m q) := by
  obtain ⟨t, h1, h2⟩ := he
  exact ⟨_, ps_expr h1 hs, fun F H σ D R q => h2 F H σ _ R fun F1 H1 x1 R1 => q F1 H1 σ x1 R1⟩
theorem sj_if {k : Bool} {ta tb : List Stmt} (hc : TJ X W c ρ ρ1 k) (h1 : k = true → BJ X W ta ρ1 o) (h2 : k = false → BJ X W tb ρ1 o) : SJ X W (.If c ta tb pos) ρ o := by
  obtain ⟨t, c1, c2⟩ := hc
  cases k with
  | true =>
    obtain ⟨u, g1, g2⟩ := h1 rfl
    refine ⟨_, ps_if c1 g1 (pss_never (sts := tb)), fun F H σ D R q => c2 F H σ _ R fun F1 H1 x1 R1 => ?_⟩
    rw [if_pos rfl]
    exact g2 F1 H1 σ D R1 (q.pull x1)
  | false =>
    obtain ⟨u, g1, g2⟩ := h2 rfl
    refine ⟨_, ps_if c1 (pss_never (sts := ta)) g1, fun F H σ D R q => c2 F H σ _ R fun F1 H1 x1 R1 => ?_⟩
    rw [if_neg Bool.false_ne_true]
    exact g2 F1 H1 σ D R1 (q.pull x1)
/-- if .. : (a way out), then the rest -/
theorem bj_if {k : Bool} {ta tb : List Stmt} {o1 : SO} (hc : TJ X W c ρ ρ1 k) (h1 : k = true → BJ X W ta ρ1 o1 ∧ (o1 = .nx ρ2 ∧ BJ X W sts ρ2 o ∨ o1 = o ∧ o.out)) (h2 : k = false → BJ X W tb ρ1 (.nx ρ3) ∧ BJ X W sts ρ3 o) : BJ X W (.If c ta tb pos :: sts) ρ o := by
  cases k with
  | true =>
    obtain ⟨g1, ⟨rfl, g2⟩ | ⟨rfl, g2⟩⟩ := h1 rfl
    · exact bj_cons (sj_if hc (fun _ => g1) (fun z => nomatch z)) g2
    · exact bj_out (sj_if hc (fun _ => g1) (fun z => nomatch z)) g2
  | false =>
    obtain ⟨g1, g2⟩ := h2 rfl
    exact bj_cons (sj_if hc (fun z => nomatch z) (fun _ => g1)) g2
end
end Pj
set_option Elab.async false
set_option linter.all false
set_option maxRecDepth 100000
namespace Pj
open PySem PySem.Spec PyProof.Rows L2

/-! ### targets -/
inductive TgS where
  | one (i : Nat)
  | tup (ts : List TgS)
mutual
def gOf (K : PySem.W.Frag) : TgS → TG
  | .one i => gName i
  | .tup ts => gTup K ts.length (gsOf K ts)
def gsOf (K : PySem.W.Frag) : List TgS → TGs
  | [] => gNil
  | t :: ts => gCons (gOf K t) (gsOf K ts)
end
mutual
def tgSet : TgS → PD → En → Option En
  | .one i, d, ρ => if i < ρ.length then some (ρ.set i (.va d)) else none
  | .tup ts, .tuple ds, ρ => tgSets ts ds ρ
  | .tup _, _, _ => none
def tgSets : List TgS → List PD → En → Option En
  | [], [], ρ => some ρ
  | t :: ts, d :: ds, ρ => match tgSet t d ρ with
    | some ρ' => tgSets ts ds ρ'
    | none => none
  | _, _, _ => none
end
mutual
def tgVars : TgS → List Nat
  | .one i => [i]
  | .tup ts => tgsVars ts
def tgsVars : List TgS → List Nat
  | [] => []
  | t :: ts => tgVars t ++ tgsVars ts
end
section
variable {K : PySem.W.Frag} {F H : Hp}
theorem tgSets_len : ∀ (ts : List TgS) (ds : List PD) (ρ ρ' : En), tgSets ts ds ρ = some ρ' → ts.length = ds.length
  | [], [], _, _, _ => rfl
  | [], _ :: _, _, _, h => by unfold tgSets at h; cases h
  | _ :: _, [], _, _, h => by unfold tgSets at h; cases h
  | t :: ts, d :: ds, ρ, ρ', h => by
    unfold tgSets at h
    split at h
    · rw [List.length_cons, List.length_cons, tgSets_len ts ds _ _ h]
    · cases h
/-- the store done -/
structure Stored (K : PySem.W.Frag) (F H : Hp) (σ : L2.St) (ρ : En) (vs : List Nat) (σ' : L2.St) (ρ' : En) : Prop where
  re : RE K F H σ' ρ'
  ext : Ext σ ρ F H σ' ρ' F H
  len : σ'.length = σ.length
  out : ∀ i, i ∉ vs → σ'[i]? = σ[i]? ∧ ρ'[i]? = ρ[i]?
mutual
theorem tg_run : ∀ (t : TgS) (d : PD) (ρ ρ' : En) (v : V) (σ : L2.St), tgSet t d ρ = some ρ' → RE K F H σ ρ → Dp K F v d → ∃ σ', Stored K F H σ ρ (tgVars t) σ' ρ' ∧ ∀ Q : L2.St → Hp → Prop, Q σ' H → gOf K t v σ H Q
  | .one i, d, ρ, ρ', v, σ, h, R, r => by
    unfold tgSet at h
    split at h
    · rename_i hi
      cases h
      obtain ⟨R2, g⟩ := R.set (H0 := H) (r := .va d) hi ⟨r, fun _ _ z => nomatch z⟩
      refine ⟨_, ⟨R2, Ext.refl.set g, by rw [List.length_set], fun j hj => ?_⟩, fun Q q => ?_⟩
      · have ne : i ≠ j := fun e => hj (by unfold tgVars; simp [e])
        exact ⟨List.getElem?_set_ne ne, List.getElem?_set_ne ne⟩
      · unfold gOf gName
        exact q
    · cases h
  | .tup ts, d, ρ, ρ', v, σ, h, R, r => by
    cases d with
    | tuple ds =>
      unfold tgSet at h
      cases r with
      | @tup a vs _ hs ha =>
        obtain ⟨σ', S, q⟩ := tgs_run ts ds ρ ρ' vs σ h R ha
        refine ⟨σ', by unfold tgVars; exact S, fun Q z => ?_⟩
        unfold gOf gTup
        exact ⟨a, vs, rfl, Same.seqT R.fh hs, by rw [DpAll.len ha, tgSets_len ts ds ρ ρ' h], q Q z⟩
    | _ => unfold tgSet at h; cases h
theorem tgs_run : ∀ (ts : List TgS) (ds : List PD) (ρ ρ' : En) (vs : List V) (σ : L2.St), tgSets ts ds ρ = some ρ' → RE K F H σ ρ → DpAll K F vs ds → ∃ σ', Stored K F H σ ρ (tgsVars ts) σ' ρ' ∧ ∀ Q : L2.St → Hp → Prop, Q σ' H → gsOf K ts vs σ H Q
  | [], [], ρ, ρ', vs, σ, h, R, r => by
    unfold tgSets at h
    cases h
    cases r
    refine ⟨σ, ⟨R, Ext.refl, rfl, fun _ _ => ⟨rfl, rfl⟩⟩, fun Q z => ?_⟩
    unfold gsOf gNil
    exact ⟨rfl, z⟩
  | [], _ :: _, _, _, _, _, h, _, _ => by unfold tgSets at h; cases h
  | _ :: _, [], _, _, _, _, h, _, _ => by unfold tgSets at h; cases h
  | t :: ts, d :: ds, ρ, ρ', vs, σ, h, R, r => by
    unfold tgSets at h
    split at h
    · rename_i ρ1 h1
      cases r with
      | cons r1 r2 =>
        obtain ⟨σ1, S1, q1⟩ := tg_run t d ρ ρ1 _ σ h1 R r1
        obtain ⟨σ2, S2, q2⟩ := tgs_run ts ds ρ1 ρ' _ σ1 h S1.re r2
        refine ⟨σ2, ⟨S2.re, S1.ext.trans S2.ext, S2.len.trans S1.len, fun i hi => ?_⟩, fun Q z => ?_⟩
        · unfold tgsVars at hi
          rw [List.mem_append, not_or] at hi
          have a1 := S1.out i hi.1
          have a2 := S2.out i hi.2
          exact ⟨a2.1.trans a1.1, a2.2.trans a1.2⟩
        · unfold gsOf gCons
          exact ⟨_, _, rfl, q1 _ (q2 Q z)⟩
    · cases h
end
end
section
variable {X : Cx} {W : WX} {lv : Nat} {n : Str} {pos : Pos} {es : List Expr} {e tg : Expr} {ρ ρ1 ρ2 : En} {d : PD} {o : SO} {body : List Stmt}
theorem pg1 (i : Nat) (hN : X.N.Nodup) (hi : X.N[i]? = some n := by rfl) (hx : Loc X.env.scope n := by first | exact Or.inl rfl | exact Or.inr rfl) (hf : X.fn n = true ∨ X.env.scope.names.lookup n = some .local := by first | exact .inl rfl | exact .inr rfl) :
    PG X (.Name n pos) (gOf X.K (.one i)) := by
  unfold gOf
  exact pg_name hN hi hx hf
theorem pgT {ts : List TgS} {k : Nat} (hc : X.calm = true) (h : PGs X es (gsOf X.K ts)) (hn : (assignEach es X.env).length = ts.length := by rfl) (hst : (assignEach es X.env).findIdx? (·.1) = none := by rfl) : PG X (.Tuple es k pos) (gOf X.K (.tup ts)) := by
  unfold gOf
  exact pg_tup hc h hn hst
theorem pgs0 : PGs X [] (gsOf X.K []) := by
  unfold gsOf
  exact pgs_nil
theorem pgsC {t : TgS} {ts : List TgS} (h1 : PG X e (gOf X.K t)) (h2 : PGs X es (gsOf X.K ts)) (hs : (assignEach (e :: es) X.env).map (·.2) = assign e X.env :: (assignEach es X.env).map (·.2) := by rfl) : PGs X (e :: es) (gsOf X.K (t :: ts)) := by
  unfold gsOf
  exact pgs_cons h1 h2 hs
theorem sj_asg {sh : TgS} (he : EJ X W e ρ (.ok ρ1 (.va d))) (hg : PG X tg (gOf X.K sh)) (hs : tgSet sh d ρ1 = some ρ2 := by rfl) (hsw : swapsWithSole [tg] e pos.line X.env = pure false := by rfl) (hw : swappedStores [tg] e X.env = pure none := by rfl)
    (h1 : (assignEach [tg] X.env).map (·.2) = [assign tg X.env] := by rfl) : SJ X W (.Assign [tg] e pos) ρ (.nx ρ2) := by
  obtain ⟨t, a1, a2⟩ := he
  refine ⟨_, ps_asg a1 hg hsw hw h1, fun F H σ D R q => a2 F H σ _ R fun F1 H1 v x1 R1 q1 => ?_⟩
  obtain ⟨σ', S, g⟩ := tg_run sh d ρ1 ρ2 v σ hs R1 q1.1
  exact g _ (q F1 H1 σ' (x1.trans S.ext) S.re)
/-- a, b = x, y -/
theorem sj_par (i j : Nat) {x y : Str} {a b : Expr} {u v : PD} {px py pt : Pos} {kt k2 pt2} (C : Ok X W lv) (ha : AJ X W [a, b] ρ ρ1 [u, v]) (hi : X.N[i]? = some x := by rfl) (hj : X.N[j]? = some y := by rfl) (hij : i ≠ j := by decide)
    (hx : X.env.scope.names.lookup x = some .local := by rfl) (hy : X.env.scope.names.lookup y = some .local := by rfl) (hli : i < ρ1.length := by exact Nat.le_of_ble_eq_true rfl) (hlj : j < ρ1.length := by exact Nat.le_of_ble_eq_true rfl)
    (hw : swappedStores [.Tuple [.Name x px, .Name y py] kt pt] (.Tuple [a, b] k2 pt2) X.env = pure (some [x, y]) := by rfl)
    (hs : swapsWithSole [.Tuple [.Name x px, .Name y py] kt pt] (.Tuple [a, b] k2 pt2) pos.line X.env = pure false := by rfl) : SJ X W (.Assign [.Tuple [.Name x px, .Name y py] kt pt] (.Tuple [a, b] k2 pt2) pos) ρ (.nx ((ρ1.set i (.va u)).set j (.va v))) := by
  obtain ⟨t, a1, a2⟩ := ha
  refine ⟨_, ps_par C.calm C.nd hi hj hij hx hy a1 hw hs, fun F H σ D R q => a2 F H σ _ R fun F1 H1 vs x1 R1 q1 => ?_⟩
  cases q1 with
  | cons r1 q1 =>
    cases q1 with
    | cons r2 q1 =>
      cases q1
      obtain ⟨R2, g2⟩ := R1.set (H0 := H) (r := .va u) hli ⟨r1, fun _ _ z => nomatch z⟩
      obtain ⟨R3, g3⟩ := R2.set (H0 := H) (r := .va v) (i := j) (by rw [List.length_set]; exact hlj) ⟨r2, fun _ _ z => nomatch z⟩
      exact ⟨_, _, rfl, q F1 H1 _ ((x1.set g2).set g3) R3⟩

/-! ### what is walked -/
structure Wk (K : PySem.W.Frag) (F0 : Hp) (J : It) (items : List PD) : Prop where
  ex : ∃ G : Hp → Prop, (∀ F H, Same F0 F → Same F H → G H) ∧ (∀ i H, i < items.length → G H → J.go i H) ∧ (∀ H, G H → J.stop items.length H) ∧
    ∀ i d F H x H', items[i]? = some d → Same F0 F → Same F H → J.yld i H x H' → ∃ F', Xt F H F' H' ∧ Dp K F' x d
def ItJ (X : Cx) (W : WX) (tg iter : Expr) (ρ ρ1 : En) (items : List PD) : Prop := ∃ wi, PI X tg iter wi ∧ ∀ F H σ R, RE X.K F H σ ρ →
  (∀ F1 H1 J, Ext σ ρ F H σ ρ1 F1 H1 → RE X.K F1 H1 σ ρ1 → Wk X.K F1 J items → R J H1) → wi σ H R
theorem wk_yat {K : PySem.W.Frag} {F0 : Hp} {J : It} {xs : List V} {ds : List PD} {G : Hp → Prop} (w : Walk J xs.length G (YAt xs)) (h : DpAll K F0 xs ds) (hG : ∀ F H, Same F0 F → Same F H → G H) : Wk K F0 J ds := by
  refine ⟨⟨G, hG, fun i H hi g => w.goes i H (by rw [DpAll.len h]; exact hi) g, fun H g => by rw [← DpAll.len h]; exact w.stops H g, fun i d F H x H' e s1 s2 y => ?_⟩⟩
  have hi : i < xs.length := by rw [DpAll.len h]; exact (List.getElem?_eq_some_iff.mp e).1
  obtain ⟨e1, e2⟩ := w.yields i H x H' hi (hG F H s1 s2) y
  subst e1
  obtain ⟨d', q1, q2⟩ := DpAll.at h e2
  rw [e] at q1
  cases q1
  exact ⟨F, Xt.refl s2, Dp.mono q2 s1⟩
theorem it_list {ds : List PD} (h : EJ X W e ρ (.ok ρ1 (.va (.list ds)))) : ItJ X W tg e ρ ρ1 ds := by
  obtain ⟨t, h1, h2⟩ := h
  refine ⟨_, pi_list h1, fun F H σ R RR q => h2 F H σ _ RR fun F1 H1 v x1 R1 q1 => ?_⟩
  cases q1.1 with
  | lst hs ha => exact ⟨_, rfl, ⟨_, Same.seq R1.fh hs⟩, q F1 H1 _ x1 R1 (wk_yat walk_list ha fun F H s1 s2 => Same.seq s2 (Same.seq s1 hs))⟩
theorem it_tup {ds : List PD} (h : EJ X W e ρ (.ok ρ1 (.va (.tuple ds)))) : ItJ X W tg e ρ ρ1 ds := by
  obtain ⟨t, h1, h2⟩ := h
  refine ⟨_, pi_tup h1, fun F H σ R RR q => h2 F H σ _ RR fun F1 H1 v x1 R1 q1 => ?_⟩
  cases q1.1 with
  | tup hs ha => exact ⟨_, rfl, ⟨_, Same.seqT R1.fh hs⟩, q F1 H1 _ x1 R1 (wk_yat walk_tup ha fun F H s1 s2 => Same.seqT s2 (Same.seqT s1 hs))⟩
def rngD (lo : Int) (n : Nat) : List PD := (List.range n).map fun k => .int (lo + (k : Nat))
theorem rngD_get {lo : Int} {n i : Nat} {d : PD} (h : (rngD lo n)[i]? = some d) : d = .int (lo + i) ∧ i < n := by
  unfold rngD at h
  rw [List.getElem?_map] at h
  obtain ⟨k, h1, h2⟩ := Option.map_eq_some_iff.mp h
  have hi := (List.getElem?_eq_some_iff.mp h1).1
  rw [List.length_range] at hi
  rw [List.getElem?_range hi] at h1
  cases h1
  exact ⟨h2.symm, hi⟩
theorem wk_range {K : PySem.W.Frag} {F0 : Hp} {lo : Int} {n : Nat} : Wk K F0 (Itr lo n) (rngD lo n) := by
  refine ⟨⟨fun _ => True, fun _ _ _ _ => trivial, fun i H hi _ => ?_, fun H _ => ?_, fun i d F H x H' e s1 s2 y => ?_⟩⟩
  · exact (show i < n by simpa [rngD] using hi)
  · exact (show n ≤ (rngD lo n).length by simp [rngD])
  · obtain ⟨e1, e2⟩ := y
    obtain ⟨rfl, _⟩ := rngD_get e
    subst e1
    subst e2
    exact ⟨F, Xt.refl s2, .int _⟩
theorem it_rng1 {a : Expr} {j : Int} {p : Pos} (h : AJ X W [a] ρ ρ1 [.int j]) (h1 : -(2 ^ 62) ≤ j ∧ j < 2 ^ 62) (hm : X.mg "range" = none) (hg : Gl X "range" := by rfl) (hs : starEach [a] X.env = [(false, eval a X.env)] := by rfl) :
    ItJ X W tg (.Call (.Name "range" p) [a] [] pos) ρ ρ1 (rngD 0 j.toNat) := by
  obtain ⟨t, a1, a2⟩ := h
  refine ⟨_, pi_range1 hg hm a1 hs, fun F H σ R RR q => a2 F H σ _ RR fun F1 H1 vs x1 R1 q1 => ?_⟩
  cases q1 with
  | cons r q1 =>
    cases q1
    cases r
    exact ⟨j, rfl, h1.1, h1.2, q F1 H1 _ x1 R1 wk_range⟩
theorem it_rng2 {a b : Expr} {i j : Int} {p : Pos} (h : AJ X W [a, b] ρ ρ1 [.int i, .int j]) (h1 : -(2 ^ 62) ≤ i ∧ i < 2 ^ 62 ∧ -(2 ^ 62) ≤ j ∧ j < 2 ^ 62) (hm : X.mg "range" = none) (hg : Gl X "range" := by rfl)
    (hs : starEach [a, b] X.env = [(false, eval a X.env), (false, eval b X.env)] := by rfl) (hs2 : starEach [b] X.env = [(false, eval b X.env)] := by rfl) :
    ItJ X W tg (.Call (.Name "range" p) [a, b] [] pos) ρ ρ1 (rngD i (j - i).toNat) := by
  obtain ⟨t, a1, a2⟩ := h
  refine ⟨_, pi_range2 hg hm a1 hs hs2, fun F H σ R RR q => a2 F H σ _ RR fun F1 H1 vs x1 R1 q1 => ?_⟩
  cases q1 with
  | cons r q1 =>
    cases r
    cases q1 with
    | cons r q1 =>
      cases q1
      cases r
      exact ⟨i, j, rfl, h1, q F1 H1 _ x1 R1 wk_range⟩

/-! ### for -/
inductive ForJ (X : Cx) (W : WX) (sh : TgS) (body : List Stmt) : List PD → En → SO → Prop where
  | nil {ρ : En} : ForJ X W sh body [] ρ (.nx ρ)
  | nx {x : PD} {xs : List PD} {ρ ρt ρ1 : En} {o : SO} : tgSet sh x ρ = some ρt → BJ X W body ρt (.nx ρ1) → ForJ X W sh body xs ρ1 o → ForJ X W sh body (x :: xs) ρ o
  | ct {x : PD} {xs : List PD} {ρ ρt ρ1 : En} {o : SO} : tgSet sh x ρ = some ρt → BJ X W body ρt (.ct ρ1) → ForJ X W sh body xs ρ1 o → ForJ X W sh body (x :: xs) ρ o
  | bk {x : PD} {xs : List PD} {ρ ρt ρ1 : En} : tgSet sh x ρ = some ρt → BJ X W body ρt (.bk ρ1) → ForJ X W sh body (x :: xs) ρ (.nx ρ1)
  | rt {x : PD} {xs : List PD} {ρ ρt ρ1 : En} {r : Rs} : tgSet sh x ρ = some ρt → BJ X W body ρt (.rt ρ1 r) → ForJ X W sh body (x :: xs) ρ (.rt ρ1 r)
  | ex {x : PD} {xs : List PD} {ρ ρt ρ1 : En} {n : Str} {p : Option (Str × PD)} : tgSet sh x ρ = some ρt → BJ X W body ρt (.ex ρ1 n p) → ForJ X W sh body (x :: xs) ρ (.ex ρ1 n p)
/-- the reading that serves every turn -/
def tBJ (X : Cx) (W : WX) (body : List Stmt) : TS := fun D σ H => ∃ F ρ o, BJ X W body ρ o ∧ RE X.K F H σ ρ ∧ SPost X W F H σ ρ D o
theorem pss_BJ : PSs X body (tBJ X W body) := ⟨fun pins s σ H D I h => by
  obtain ⟨F, ρ, o, ⟨t, h1, h2⟩, R, q⟩ := h
  exact h1.run pins s σ H D I (h2 F H σ D R q)⟩
theorem sj_for {iter : Expr} {sh : TgS} {items : List PD} (C : Ok X W lv) (hi : ItJ X W tg iter ρ ρ1 items) (hg : PG X tg (gOf X.K sh)) (hb : ForJ X W sh body items ρ1 o) (hs : ∀ x, foldedSetIterable iter X.env x = pure x := by intro _; rfl) :
    SJ X W (.For tg iter body [] pos) ρ o := by
  obtain ⟨wi, i1, i2⟩ := hi
  refine ⟨_, ps_for C.pass C.calm i1 hg (pss_BJ (X := X) (W := W)) hs, fun F0 H0 σ0 D R0 q => i2 F0 H0 σ0 _ R0 fun F1 H1 J x1 R1 w => ?_⟩
  obtain ⟨G, hG, go, stop, yld⟩ := w.ex
  refine ⟨fun i m σ H => ∃ F ρc, m = items.length - i ∧ i ≤ items.length ∧ Ext σ0 ρ F0 H0 σ ρc F H ∧ Same F1 F ∧ RE X.K F H σ ρc ∧ ForJ X W sh body (items.drop i) ρc o, ⟨items.length, F1, ρ1, rfl, Nat.zero_le _, x1, Same.refl _, R1, hb⟩, ?_⟩
  rintro i m σ H ⟨F, ρc, rfl, hi, xc, sF, Rc, fj⟩
  have g := hG F H sF Rc.fh
  by_cases hlt : i < items.length
  · refine .inr ⟨go i H hlt g, fun σ' H' => ∃ F' ρ', Ext σ0 ρ F0 H0 σ' ρ' F' H' ∧ Same F1 F' ∧ RE X.K F' H' σ' ρ' ∧ ForJ X W sh body (items.drop (i + 1)) ρ' o, ?_, fun x H' y => ?_⟩
    · rintro σ' H' ⟨F', ρ', a1, a2, a3, a4⟩
      exact ⟨items.length - (i + 1), by omega, F', ρ', rfl, hlt, a1, a2, a3, a4⟩
    · have ei : items[i]? = some items[i] := List.getElem?_eq_getElem hlt
      obtain ⟨F', xt, dp⟩ := yld i _ F H x H' ei sF Rc.fh y
      obtain ⟨R2, x2⟩ := Rc.ext xt
      have ed : items.drop i = items[i] :: items.drop (i + 1) := List.drop_eq_getElem_cons hlt
      rw [ed] at fj
      cases fj with
      | nx h1 h2 h3 =>
        obtain ⟨σ', S, g'⟩ := tg_run sh _ _ _ x σ h1 R2 dp
        exact g' _ ⟨F', _, _, h2, S.re, fun F4 H4 σ4 x4 R4 => ⟨F4, _, ((xc.trans x2).trans S.ext).trans x4, (sF.trans xt.ff).trans x4.ff, R4, h3⟩⟩
      | ct h1 h2 h3 =>
        obtain ⟨σ', S, g'⟩ := tg_run sh _ _ _ x σ h1 R2 dp
        exact g' _ ⟨F', _, _, h2, S.re, fun F4 H4 σ4 x4 R4 => ⟨F4, _, ((xc.trans x2).trans S.ext).trans x4, (sF.trans xt.ff).trans x4.ff, R4, h3⟩⟩
      | bk h1 h2 =>
        obtain ⟨σ', S, g'⟩ := tg_run sh _ _ _ x σ h1 R2 dp
        exact g' _ ⟨F', _, _, h2, S.re, fun F4 H4 σ4 x4 R4 => q F4 H4 σ4 (((xc.trans x2).trans S.ext).trans x4) R4⟩
      | rt h1 h2 =>
        obtain ⟨σ', S, g'⟩ := tg_run sh _ _ _ x σ h1 R2 dp
        exact g' _ ⟨F', _, _, h2, S.re, fun F4 H4 σ4 v x4 R4 q4 => q F4 H4 σ4 v (((xc.trans x2).trans S.ext).trans x4) R4 (q4.pull ((xc.trans x2).trans S.ext).tr)⟩
      | ex h1 h2 =>
        obtain ⟨σ', S, g'⟩ := tg_run sh _ _ _ x σ h1 R2 dp
        exact g' _ ⟨F', _, _, h2, S.re, fun F4 H4 σ4 x4 R4 => q F4 H4 σ4 (((xc.trans x2).trans S.ext).trans x4) R4⟩
  · have e : i = items.length := by omega
    subst e
    rw [List.drop_length] at fj
    cases fj
    exact .inl ⟨stop H g, q F H σ xc Rc⟩

/-! ### while -/
inductive WhJ (X : Cx) (W : WX) (c : Expr) (body : List Stmt) : Nat → En → SO → Prop where
  | done {m : Nat} {ρ ρ1 : En} : TJ X W c ρ ρ1 false → WhJ X W c body m ρ (.nx ρ1)
  | nx {m : Nat} {ρ ρ1 ρ2 : En} {o : SO} : TJ X W c ρ ρ1 true → BJ X W body ρ1 (.nx ρ2) → WhJ X W c body m ρ2 o → WhJ X W c body (m + 1) ρ o
  | rt {m : Nat} {ρ ρ1 ρ2 : En} {r : Rs} : TJ X W c ρ ρ1 true → BJ X W body ρ1 (.rt ρ2 r) → WhJ X W c body m ρ (.rt ρ2 r)
def tTJ (X : Cx) (W : WX) (c : Expr) : TT := fun σ H Q => ∃ F ρ ρ' b, TJ X W c ρ ρ' b ∧ RE X.K F H σ ρ ∧ ∀ F' H', Ext σ ρ F H σ ρ' F' H' → RE X.K F' H' σ ρ' → Q b H'
theorem pt_TJ {c : Expr} : PT X c (tTJ X W c) := ⟨fun pins s σ H Q I h => by
  obtain ⟨F, ρ, ρ', b, ⟨t, h1, h2⟩, R, q⟩ := h
  exact h1.run pins s σ H Q I (h2 F H σ Q R q)⟩
theorem sj_while {c : Expr} {m : Nat} (C : Ok X W lv) (hb : WhJ X W c body m ρ o) : SJ X W (.While c body [] pos) ρ o := by
  refine ⟨_, ps_while C.pass (pt_TJ (X := X) (W := W)) (pss_BJ (X := X) (W := W)), fun F0 H0 σ0 D R0 q => ?_⟩
  refine ⟨fun m σ H => ∃ F ρc, Ext σ0 ρ F0 H0 σ ρc F H ∧ RE X.K F H σ ρc ∧ WhJ X W c body m ρc o, ⟨m, F0, ρ, Ext.refl, R0, hb⟩, ?_⟩
  rintro m σ H ⟨F, ρc, xc, Rc, wj⟩
  cases wj with
  | done h1 => 
    refine ⟨F, ρc, _, _, h1, Rc, fun F1 H1 x1 R1 => ?_⟩
    exact iteF (q F1 H1 σ (xc.trans x1) R1)
  | nx h1 h2 h3 =>
    refine ⟨F, ρc, _, _, h1, Rc, fun F1 H1 x1 R1 => ?_⟩
    refine iteT ⟨fun σ' H' => ∃ F' ρ', Ext σ0 ρ F0 H0 σ' ρ' F' H' ∧ RE X.K F' H' σ' ρ' ∧ WhJ X W c body _ ρ' o, ?_, F1, _, _, h2, R1, fun F2 H2 σ2 x2 R2 => ⟨F2, _, (xc.trans x1).trans x2, R2, h3⟩⟩
    rintro σ' H' ⟨F', ρ', a1, a2, a3⟩
    exact ⟨_, Nat.lt_succ_self _, F', ρ', a1, a2, a3⟩
  | rt h1 h2 =>
    refine ⟨F, ρc, _, _, h1, Rc, fun F1 H1 x1 R1 => ?_⟩
    exact iteT ⟨fun _ _ => False, fun _ _ z => z.elim, F1, _, _, h2, R1, fun F2 H2 σ2 v x2 R2 q2 => q F2 H2 σ2 v ((xc.trans x1).trans x2) R2 (q2.pull (xc.trans x1).tr)⟩
end
end Pj
set_option Elab.async false
set_option linter.all false
set_option maxRecDepth 100000
namespace Pj
open PySem PySem.Spec PyProof.Rows L2

/-! ### comprehensions -/
def BlkX (X : Cx) (scope : Scope) (Y : Cx) : Prop := ∃ (s : Shared) (H : Hp) (C : Addr) (cl : List (Str × Addr)) (fp : List Addr), Y = X.blk s H scope (compEnvC scope cl C X.env) fp
def IfsJ (X : Cx) (ifs : List Expr) (ρ ρ' : En) (b : Bool) : Prop := ∃ t, PTs X ifs t ∧ ∀ F H σ Q, RE X.K F H σ ρ → (∀ F' H', Ext σ ρ F H σ ρ' F' H' → RE X.K F' H' σ ρ' → Q b H') → t σ H Q
theorem ifs_nil {X : Cx} {ρ : En} : IfsJ X [] ρ ρ true := ⟨_, pts_nil, fun F H σ Q R q => q F H Ext.refl R⟩
theorem ifs_one {X : Cx} {ρ ρ' : En} {c : Expr} {b : Bool} (h : TJ X W0 c ρ ρ' b) : IfsJ X [c] ρ ρ' b := by
  obtain ⟨t, h1, h2⟩ := h
  exact ⟨t, pts_one h1, h2⟩
def wipeE (ρ : En) : List Nat → En
  | [] => ρ
  | v :: vs => (wipeE ρ vs).set v .un
/-- the turn's end, seen from outside the block -/
structure Back (vs : List Nat) (ρ ρe ρ1 : En) : Prop where
  len : ρ1.length = ρe.length
  out : ∀ i, i ∉ vs → ρ1[i]? = ρe[i]?
  own : ∀ i, i ∈ vs → ρ1[i]? = ρ[i]?
inductive LcJ (X : Cx) (scope : Scope) (vs : List Nat) (sh : TgS) (elt : Expr) (ifs : List Expr) : List PD → En → List PD → En → Prop where
  | nil {ρ : En} : LcJ X scope vs sh elt ifs [] ρ [] ρ
  | keep {x y : PD} {xs ys : List PD} {ρ ρt ρi ρe ρ1 ρ2 : En} : tgSet sh x (wipeE ρ vs) = some ρt → (∀ Y, BlkX X scope Y → IfsJ Y ifs ρt ρi true) → (∀ Y, BlkX X scope Y → EJ Y W0 elt ρi (.ok ρe (.va y))) → Back vs ρ ρe ρ1 →
      LcJ X scope vs sh elt ifs xs ρ1 ys ρ2 → LcJ X scope vs sh elt ifs (x :: xs) ρ (y :: ys) ρ2
  | skip {x : PD} {xs ys : List PD} {ρ ρt ρi ρ1 ρ2 : En} : tgSet sh x (wipeE ρ vs) = some ρt → (∀ Y, BlkX X scope Y → IfsJ Y ifs ρt ρi false) → Back vs ρ ρi ρ1 →
      LcJ X scope vs sh elt ifs xs ρ1 ys ρ2 → LcJ X scope vs sh elt ifs (x :: xs) ρ ys ρ2

theorem wipeE_length (ρ : En) : ∀ vs, (wipeE ρ vs).length = ρ.length
  | [] => rfl
  | v :: vs => by unfold wipeE; rw [List.length_set, wipeE_length ρ vs]
theorem wipeE_out {ρ : En} {i : Nat} : ∀ {vs : List Nat}, i ∉ vs → (wipeE ρ vs)[i]? = ρ[i]?
  | [], _ => rfl
  | v :: vs, h => by
    unfold wipeE
    rw [List.getElem?_set_ne (by intro e; apply h; simp [e])]
    exact wipeE_out (by intro e; apply h; simp [e])
theorem wipeE_own {ρ : En} {i : Nat} {s : Sl} : ∀ {vs : List Nat}, i ∈ vs → (wipeE ρ vs)[i]? = some s → s = .un
  | [], h, _ => by cases h
  | v :: vs, h, e => by
    unfold wipeE at e
    by_cases z : v = i
    · subst z
      by_cases hl : v < (wipeE ρ vs).length
      · rw [List.getElem?_set_self hl] at e; cases e; rfl
      · rw [List.getElem?_eq_none (by simpa using hl)] at e; cases e
    · rw [List.getElem?_set_ne z] at e
      rcases List.mem_cons.mp h with q | q
      · exact absurd q.symm z
      · exact wipeE_own q e
theorem wipe_outS {σ : L2.St} {i : Nat} : ∀ {vs : List Nat}, i ∉ vs → (wipe σ vs)[i]? = σ[i]?
  | [], _ => rfl
  | v :: vs, h => by
    unfold wipe
    rw [List.getElem?_set_ne (by intro e; apply h; simp [e])]
    exact wipe_outS (by intro e; apply h; simp [e])
theorem wipe_ownS {σ : L2.St} {i : Nat} : ∀ {vs : List Nat}, i ∈ vs → (wipe σ vs)[i]? = if i < σ.length then some none else none
  | [], h => by cases h
  | v :: vs, h => by
    unfold wipe
    by_cases z : v = i
    · subst z
      by_cases hl : v < σ.length
      · rw [List.getElem?_set_self (by rw [wipe_length]; exact hl), if_pos hl]
      · rw [List.getElem?_eq_none (by rw [List.length_set, wipe_length]; omega), if_neg hl]
    · rw [List.getElem?_set_ne z]
      rcases List.mem_cons.mp h with q | q
      · exact absurd q.symm z
      · exact wipe_ownS q
theorem wipe_agree {σ σ' : L2.St} {vs : List Nat} (hl : σ'.length = σ.length) (h : ∀ i, i ∉ vs → σ'[i]? = (wipe σ vs)[i]?) : wipe σ' vs = wipe σ vs := by
  refine List.ext_getElem? fun i => ?_
  by_cases z : i ∈ vs
  · rw [wipe_ownS z, wipe_ownS z, hl]
  · rw [wipe_outS z, h i z]

section
variable {X : Cx} {W : WX} {lv : Nat} {scope : Scope} {own : List (Str × Nat)} {sh : TgS} {elt tg iter : Expr} {ifs : List Expr} {items ys : List PD} {ρ ρ1 ρ2 : En} {pos : Pos}
def teJ (X : Cx) (scope : Scope) (elt : Expr) : TE := fun σ H Q => ∃ F ρ ρe y, (∀ Y, BlkX X scope Y → EJ Y W0 elt ρ (.ok ρe (.va y))) ∧ RE X.K F H σ ρ ∧ EPost X W0 F H σ ρ Q (.ok ρe (.va y))
def ttJ (X : Cx) (scope : Scope) (ifs : List Expr) : TT := fun σ H Q => ∃ F ρ ρi b, (∀ Y, BlkX X scope Y → IfsJ Y ifs ρ ρi b) ∧ RE X.K F H σ ρ ∧ ∀ F' H', Ext σ ρ F H σ ρi F' H' → RE X.K F' H' σ ρi → Q b H'
theorem te_ok (s : Shared) (H : Hp) (C : Addr) (cl : List (Str × Addr)) (fp : List Addr) : PE (X.blk s H scope (compEnvC scope cl C X.env) fp) elt (teJ X scope elt) := ⟨fun pins s' σ H' Q I h => by
  obtain ⟨F, ρ, ρe, y, hJ, R, q⟩ := h
  obtain ⟨t, h1, h2⟩ := hJ _ ⟨s, H, C, cl, fp, rfl⟩
  exact h1.run pins s' σ H' Q I (h2 F H' σ Q R q)⟩
theorem tt_ok (s : Shared) (H : Hp) (C : Addr) (cl : List (Str × Addr)) (fp : List Addr) : PTs (X.blk s H scope (compEnvC scope cl C X.env) fp) ifs (ttJ X scope ifs) := ⟨fun pins s' σ H' Q I h => by
  obtain ⟨F, ρ, ρi, b, hJ, R, q⟩ := h
  obtain ⟨t, h1, h2⟩ := hJ _ ⟨s, H, C, cl, fp, rfl⟩
  exact h1.run pins s' σ H' Q I (h2 F H' σ Q R q)⟩
/-- from the block back -/
theorem re_back {K : PySem.W.Frag} {F' H' F4 H4 : Hp} {σ σ2 : L2.St} {ρc ρt ρe ρ1 : En} {vs : List Nat} (Rc : RE K F' H' σ ρc) (R4 : RE K F4 H4 σ2 ρe) (x : Ext σ2 ρt F' H' σ2 ρe F4 H4) (hl : σ2.length = σ.length) (hσ : ∀ i, i ∉ vs → σ2[i]? = σ[i]?)
    (hρ : ∀ i, i ∉ vs → ρt[i]? = ρc[i]?) (hv : ∀ i s, i ∈ vs → ρc[i]? = some s → s.ct = none) (ht : ∀ i s, i ∈ vs → ρt[i]? = some s → s.ct = none) (B : Back vs ρc ρe ρ1) :
    RE K F4 H4 σ ρ1 ∧ Ext σ ρc F' H' σ ρ1 F4 H4 ∧ ∀ i a, OwAt σ2 ρt i a → OwAt σ ρc i a := by
  have o1 : ∀ i a, OwAt σ ρ1 i a → OwAt σ2 ρe i a := fun i a ⟨⟨s, c, h1, h2⟩, h3⟩ => by
    by_cases z : i ∈ vs
    · rw [B.own i z] at h1
      rw [hv i s z h1] at h2
      cases h2
    · exact ⟨⟨s, c, B.out i z ▸ h1, h2⟩, by rw [hσ i z]; exact h3⟩
  have o2 : ∀ i a, OwAt σ2 ρt i a → OwAt σ ρc i a := fun i a ⟨⟨s, c, h1, h2⟩, h3⟩ => by
    by_cases z : i ∈ vs
    · rw [ht i s z h1] at h2
      cases h2
    · exact ⟨⟨s, c, hρ i z ▸ h1, h2⟩, hσ i z ▸ h3⟩
  refine ⟨⟨by rw [← hl, B.len]; exact R4.len, R4.fh, fun i d h => ?_, fun i s c h1 h2 => ?_, fun i j a h1 h2 => R4.inj i j a (o1 i a h1) (o1 j a h2)⟩, ⟨x.ff, fun b o h n => x.hh b o h fun i q => n i (o2 i b q), fun b o f h n => x.nf b o f h fun i q => n i (o2 i b q), fun i a h => ?_, x.tr⟩, o2⟩
  · by_cases z : i ∈ vs
    · rw [B.own i z] at h
      obtain ⟨v, q1, q2⟩ := Rc.va i d h
      exact ⟨v, q1, Dp.mono q2 x.ff⟩
    · rw [B.out i z] at h
      rw [← hσ i z]
      exact R4.va i d h
  · by_cases z : i ∈ vs
    · rw [B.own i z] at h1
      rw [hv i s z h1] at h2
      cases h2
    · rw [B.out i z] at h1
      rw [← hσ i z]
      exact R4.ob i s c h1 h2
  · rcases x.ow i a (o1 i a h) with ⟨j, z⟩ | z
    · exact .inl ⟨j, o2 j a z⟩
    · exact .inr z
/-- a thing that no slot holds is changed -/
theorem re_side {K : PySem.W.Frag} {F H : Hp} {σ : L2.St} {ρ : En} {D : Addr} {u : HO} (R : RE K F H σ ρ) (f : F D = none) (n : ∀ i, ¬ OwAt σ ρ i D) : RE K F (upd H D u) σ ρ := by
  refine ⟨R.len, fun b o h => ?_, R.va, fun i s c h1 h2 => ?_, R.inj⟩
  · rw [upd_ne (ne_of_none h f)]
    exact R.fh b o h
  · obtain ⟨a, o, q1, q2, q3, q4, q5⟩ := R.ob i s c h1 h2
    have ne : a ≠ D := fun e => n i ⟨⟨s, c, h1, h2⟩, by rw [q1, e]⟩
    exact ⟨a, o, q1, q2, q3, by rw [upd_ne ne]; exact q4, q5⟩
theorem ext_side {F0 H0 F H : Hp} {σ0 σ : L2.St} {ρ0 ρ : En} {D : Addr} {u : HO} (x : Ext σ0 ρ0 F0 H0 σ ρ F H) (h : H0 D = none) : Ext σ0 ρ0 F0 H0 σ ρ F (upd H D u) := by
  refine ⟨x.ff, fun b o g n => ?_, x.nf, x.ow, fun b z => ?_⟩
  · rw [upd_ne (ne_of_none g h)]
    exact x.hh b o g n
  · by_cases e : b = D
    · subst e; exact h
    · rw [upd_ne e] at z; exact x.tr b z
/-- THE READING of a comprehension -/
theorem lc_read {F0 H0 : Hp} {σ : L2.St} {Q : VK} {wi : TI} {vs : List Nat}
    (hi : ∀ F H σ R, RE X.K F H σ ρ → (∀ F1 H1 J, Ext σ ρ F H σ ρ1 F1 H1 → RE X.K F1 H1 σ ρ1 → Wk X.K F1 J items → R J H1) → wi σ H R)
    (hl : LcJ X scope vs sh elt ifs items ρ1 ys ρ2) (hs : ∀ i, i ∈ tgVars sh → i ∈ vs) (hv : ∀ i s, i ∈ vs → ρ1[i]? = some s → s.ct = none) (hz : ys.length < sizeLine)
    (R0 : RE X.K F0 H0 σ ρ) (q : EPost X W F0 H0 σ ρ Q (.ok ρ2 (.ow (.lst ys)))) : tLc wi (gOf X.K sh) (ttJ X scope ifs) (teJ X scope elt) vs σ H0 Q := by
  refine hi F0 H0 σ _ R0 fun F1 H1 J x1 R1 w => fun D hD => ?_
  obtain ⟨G, hG, go, stop, yld⟩ := w.ex
  have hD0 : H0 D = none := x1.tr D hD
  have FD : F1 D = none := Same.free R1.fh hD
  have nD : ∀ i, ¬ OwAt σ ρ1 i D := fun i z => by
    obtain ⟨_, o, e⟩ := R1.owAt z
    rw [hD] at e; cases e
  refine ⟨fun i m H => ∃ F ρc acc done rest, m = items.length - i ∧ i ≤ items.length ∧ Ext σ ρ F0 H0 σ ρc F H ∧ Same F1 F ∧ RE X.K F H σ ρc ∧ F D = none ∧ H D = some (.lst acc) ∧ DpAll X.K F acc done ∧ (∀ i, ¬ OwAt σ ρc i D) ∧ ys = done ++ rest ∧
    (∀ i s, i ∈ vs → ρc[i]? = some s → s.ct = none) ∧ LcJ X scope vs sh elt ifs (items.drop i) ρc rest ρ2,
    ⟨items.length, F1, ρ1, [], [], ys, rfl, Nat.zero_le _, ext_side x1 hD0, Same.refl _, re_side R1 FD nD, FD, upd_same, .nil, nD, rfl, hv, hl⟩, ?_⟩
  rintro i m H ⟨F, ρc, acc, done, rest, rfl, hi', xc, sF, Rc, fD, hDl, dA, nDc, ey, hvc, lj⟩
  have g := hG F H sF Rc.fh
  by_cases hlt : i < items.length
  · refine .inr ⟨go i H hlt g, fun H' => ∃ F ρc acc done rest, Ext σ ρ F0 H0 σ ρc F H' ∧ Same F1 F ∧ RE X.K F H' σ ρc ∧ F D = none ∧ H' D = some (.lst acc) ∧ DpAll X.K F acc done ∧ (∀ i, ¬ OwAt σ ρc i D) ∧ ys = done ++ rest ∧
      (∀ i s, i ∈ vs → ρc[i]? = some s → s.ct = none) ∧ LcJ X scope vs sh elt ifs (items.drop (i + 1)) ρc rest ρ2, ?_, fun x H' y => ?_⟩
    · rintro H' ⟨F', ρ', acc', done', rest', a⟩
      exact ⟨items.length - (i + 1), by omega, F', ρ', acc', done', rest', rfl, hlt, a⟩
    · have ei : items[i]? = some items[i] := List.getElem?_eq_getElem hlt
      obtain ⟨F', xt, dp⟩ := yld i _ F H x H' ei sF Rc.fh y
      obtain ⟨R2, x2⟩ := Rc.ext xt
      have fD' : F' D = none := xt.nf D _ fD hDl
      have hDl' : H' D = some (.lst acc) := xt.hh D _ hDl
      have dA' := DpAll.mono dA xt.ff
      -- the block
      have Rb : RE X.K F' H' (wipe σ vs) (wipeE ρc vs) := re_wipe R2 (wipe_length σ vs) (wipeE_length ρc vs) fun j => by
        by_cases z : j ∈ vs
        · exact .inr fun s e => wipeE_own z e
        · exact .inl ⟨wipe_outS z, wipeE_out z⟩
      have ed : items.drop i = items[i] :: items.drop (i + 1) := List.drop_eq_getElem_cons hlt
      rw [ed] at lj
      have prep : ∀ {ρt}, tgSet sh items[i] (wipeE ρc vs) = some ρt → ∃ σ2, RE X.K F' H' σ2 ρt ∧ σ2.length = σ.length ∧ (∀ j, j ∉ vs → σ2[j]? = σ[j]?) ∧ (∀ j, j ∉ vs → ρt[j]? = ρc[j]?) ∧ (∀ j s, j ∈ vs → ρt[j]? = some s → s.ct = none) ∧ wipe σ2 vs = wipe σ vs ∧
          ∀ Q : L2.St → Hp → Prop, Q σ2 H' → gOf X.K sh x (wipe σ vs) H' Q := fun {ρt} ht => by
        obtain ⟨σ2, S, gg⟩ := tg_run sh _ _ _ x (wipe σ vs) ht Rb dp
        have l2 : σ2.length = σ.length := S.len.trans (wipe_length σ vs)
        have o2 : ∀ j, j ∉ vs → σ2[j]? = (wipe σ vs)[j]? := fun j hj => (S.out j fun z => hj (hs j z)).1
        refine ⟨σ2, S.re, l2, fun j hj => (o2 j hj).trans (wipe_outS hj), fun j hj => ((S.out j fun z => hj (hs j z)).2).trans (wipeE_out hj), fun j s hj e => ?_, wipe_agree l2 o2, gg⟩
        cases hct : s.ct with
        | none => rfl
        | some c =>
          exfalso
          obtain ⟨a, o, z1, _⟩ := S.re.ob j s c e hct
          rcases S.ext.ow j a ⟨⟨s, c, e, hct⟩, z1⟩ with ⟨k, z⟩ | z
          · have kvs : k ∉ vs := fun kv => by
              obtain ⟨⟨s', c', w1, w2⟩, _⟩ := z
              rw [wipeE_own kv w1] at w2
              cases w2
            have z' : OwAt σ2 ρt k a := by
              obtain ⟨⟨s', c', w1, w2⟩, w3⟩ := z
              exact ⟨⟨s', c', by rw [(S.out k fun z => kvs (hs k z)).2]; exact w1, w2⟩, by rw [(S.out k fun z => kvs (hs k z)).1]; exact w3⟩
            exact kvs (S.re.inj j k a ⟨⟨s, c, e, hct⟩, z1⟩ z' ▸ hj)
          · obtain ⟨_, o', z2⟩ := S.re.owAt ⟨⟨s, c, e, hct⟩, z1⟩
            rw [z] at z2; cases z2
      cases lj with
      | @keep _ y _ ysr _ ρt ρi ρe ρn _ h1 h2 h3 h4 h5 =>
        obtain ⟨σ2, Rt, l2, oσ, oρ, vt, wp, gg⟩ := prep h1
        refine gg _ ⟨wp, F', ρt, ρi, true, h2, Rt, fun F3 H3 x3 R3 => ?_⟩
        refine iteT ⟨F3, ρi, ρe, y, h3, R3, fun F4 H4 v4 x4 R4 q4 => ?_⟩
        obtain ⟨Rn, xn, on⟩ := re_back R2 R4 (x3.trans x4) l2 oσ oρ hvc vt h4
        have nD2 : ∀ j, ¬ OwAt σ2 ρt j D := fun j z => nDc j (on j D z)
        have hD4 : H4 D = some (.lst acc) := (x3.trans x4).hh D _ hDl' nD2
        have fD4 : F4 D = none := (x3.trans x4).nf D _ fD' hDl' nD2
        have nDn : ∀ j, ¬ OwAt σ ρn j D := fun j z => by
          rcases xn.ow j D z with ⟨k, z'⟩ | z'
          · exact nDc k z'
          · rw [hDl'] at z'; cases z'
        refine ⟨acc, hD4, ?_, ?_⟩
        · rw [DpAll.len dA]
          rw [ey, List.length_append, List.length_cons] at hz
          omega
        · refine ⟨F4, ρn, acc ++ [v4], done ++ [y], ysr, ext_side ((xc.trans x2).trans xn) hD0, (sF.trans xt.ff).trans xn.ff, re_side Rn fD4 nDn, fD4, upd_same, DpAll.append (DpAll.mono dA' xn.ff) (.cons q4.1 .nil), nDn, by rw [ey]; simp, fun j s hj e => ?_, h5⟩
          rw [h4.own j hj] at e
          exact hvc j s hj e
      | @skip _ _ _ _ ρt ρi ρn _ h1 h2 h4 h5 =>
        obtain ⟨σ2, Rt, l2, oσ, oρ, vt, wp, gg⟩ := prep h1
        refine gg _ ⟨wp, F', ρt, ρi, false, h2, Rt, fun F3 H3 x3 R3 => ?_⟩
        refine iteF ?_
        obtain ⟨Rn, xn, on⟩ := re_back R2 R3 x3 l2 oσ oρ hvc vt h4
        have nD2 : ∀ j, ¬ OwAt σ2 ρt j D := fun j z => nDc j (on j D z)
        have hD4 : H3 D = some (.lst acc) := x3.hh D _ hDl' nD2
        have fD4 : F3 D = none := x3.nf D _ fD' hDl' nD2
        have nDn : ∀ j, ¬ OwAt σ ρn j D := fun j z => by
          rcases xn.ow j D z with ⟨k, z'⟩ | z'
          · exact nDc k z'
          · rw [hDl'] at z'; cases z'
        refine ⟨F3, ρn, acc, done, rest, (xc.trans x2).trans xn, (sF.trans xt.ff).trans xn.ff, Rn, fD4, hD4, DpAll.mono dA' xn.ff, nDn, ey, fun j s hj e => ?_, h5⟩
        rw [h4.own j hj] at e
        exact hvc j s hj e
  · have e : i = items.length := by omega
    subst e
    rw [List.drop_length] at lj
    cases lj
    rw [List.append_nil] at ey
    subst ey
    exact .inl ⟨stop H g, q F H _ xc Rc ⟨⟨D, _, rfl, fD, hDl, dA, hD0⟩, fun c a _ e2 i z => by cases e2; exact nDc i z⟩⟩
end
end Pj
set_option Elab.async false
set_option linter.all false
set_option maxRecDepth 100000
namespace Pj
open PySem PySem.Spec PyProof.Rows L2
section
variable {X : Cx} {W : WX} {lv : Nat} {scope : Scope} {own : List (Str × Nat)} {sh : TgS} {elt tg iter e : Expr} {es : List Expr} {ifs : List Expr} {items ys ds : List PD} {ρ ρ1 ρ2 ρ3 : En} {pos p : Pos} {d x y : PD} {z : Rs} {n : Str}

def noCt (ρ : En) (vs : List Nat) : Bool := vs.all fun i => match ρ[i]? with
  | some (.ow _) => false
  | some (.br _ _) => false
  | _ => true
theorem noCt_ok {vs : List Nat} (h : noCt ρ vs = true) : ∀ (i : Nat) (s : Sl), i ∈ vs → ρ[i]? = some s → s.ct = none := fun i s hi e => by
  have q := List.all_eq_true.mp h i hi
  simp only [e] at q
  cases s <;> first | rfl | cases q
def subB (a b : List Nat) : Bool := a.all fun i => b.contains i
theorem subB_ok {a b : List Nat} (h : subB a b = true) : ∀ i, i ∈ a → i ∈ b := fun i hi => by
  have q := List.all_eq_true.mp h i hi
  simpa using q
theorem ej_lc (C : Ok X W lv) (hi : ItJ X W tg iter ρ ρ1 items) (ok : BlkOk X.N X.env.scope scope own) (hg : ∀ (s : Shared) (H : Hp) (A : Addr) (cl : List (Str × Addr)) (fp : List Addr), PG (X.blk s H scope (compEnvC scope cl A X.env) fp) tg (gOf X.K sh))
    (hl : LcJ X scope (own.map (·.2)) sh elt ifs items ρ1 ys ρ2) (hz : ys.length < sizeLine) (hs : subB (tgVars sh) (own.map (·.2)) = true := by rfl) (hv : noCt ρ1 (own.map (·.2)) = true := by rfl)
    (hf : ∀ x, foldedSetIterable iter X.env x = pure x := by intro _; rfl) : EJ X W (.ListComp elt [⟨tg, iter, ifs, 0⟩] scope pos) ρ (.ok ρ2 (.ow (.lst ys))) := by
  obtain ⟨wi, i1, i2⟩ := hi
  exact ⟨_, pe_lc C.calm C.nd i1 ok hg tt_ok te_ok hf, fun F H σ Q R q => lc_read i2 hl (subB_ok hs) (noCt_ok hv) hz R q⟩
theorem sj_setC (i : Nat) {py : Pos} {y : Str} (C : Ok X W lv) (hi : ItJ X W tg iter ρ ρ1 items) (ok : BlkOk X.N X.env.scope scope own) (hg : ∀ (s : Shared) (H : Hp) (A : Addr) (cl : List (Str × Addr)) (fp : List Addr), PG (X.blk s H scope (compEnvC scope cl A X.env) fp) tg (gOf X.K sh))
    (hl : LcJ X scope (own.map (·.2)) sh elt ifs items ρ1 ys ρ2) (hz : ys.length < sizeLine) (hsw : swapsWith (.ListComp elt [⟨tg, iter, ifs, 0⟩] scope pos) (some (.Name y py)) p.line X.env = pure true) (hs : subB (tgVars sh) (own.map (·.2)) = true := by rfl) (hv : noCt ρ1 (own.map (·.2)) = true := by rfl)
    (hf : ∀ x, foldedSetIterable iter X.env x = pure x := by intro _; rfl) (hy : X.N[i]? = some y := by rfl) (hyl : X.env.scope.names.lookup y = some .local := by rfl) (hlt : i < ρ2.length := by exact Nat.le_of_ble_eq_true rfl) : SJ X W (.Assign [.Name y py] (.ListComp elt [⟨tg, iter, ifs, 0⟩] scope pos) p) ρ (.nx (ρ2.set i (.ow (.lst ys)))) := by
  obtain ⟨wi, i1, i2⟩ := hi
  refine ⟨_, ps_setLc C.calm C.nd hy hyl hsw i1 ok hg tt_ok te_ok hf, fun F H σ D R q => lc_read (W := W) i2 hl (subB_ok hs) (noCt_ok hv) hz R fun F1 H1 v x1 R1 q1 => ?_⟩
  obtain ⟨R2, g⟩ := R1.set (r := .ow (.lst ys)) hlt q1
  exact q F1 H1 _ (x1.set g) R2
/-- nothing changes in a turn: one item of the result for each -/
theorem tgSet_len : ∀ (sh : TgS) (d : PD) (ρ ρ' : En), tgSet sh d ρ = some ρ' → ρ'.length = ρ.length := fun sh => by
  refine TgS.rec (motive_1 := fun sh => ∀ (d : PD) (ρ ρ' : En), tgSet sh d ρ = some ρ' → ρ'.length = ρ.length) (motive_2 := fun ts => ∀ (ds : List PD) (ρ ρ' : En), tgSets ts ds ρ = some ρ' → ρ'.length = ρ.length) (fun i d ρ ρ' h => ?_) (fun ts ih d ρ ρ' h => ?_) (fun ds ρ ρ' h => ?_) (fun t ts h1 h2 ds ρ ρ' h => ?_) sh
  · unfold tgSet at h
    split at h
    · cases h; rw [List.length_set]
    · cases h
  · cases d with
    | tuple ds => unfold tgSet at h; exact ih ds ρ ρ' h
    | _ => unfold tgSet at h; cases h
  · cases ds with
    | nil => unfold tgSets at h; cases h; rfl
    | cons _ _ => unfold tgSets at h; cases h
  · cases ds with
    | nil => unfold tgSets at h; cases h
    | cons d ds =>
      unfold tgSets at h
      split at h
      · rename_i ρ1 e1
        rw [h2 ds ρ1 ρ' h, h1 d ρ ρ1 e1]
      · cases h
theorem tgSet_out : ∀ (sh : TgS) (d : PD) (ρ ρ' : En), tgSet sh d ρ = some ρ' → ∀ i, i ∉ tgVars sh → ρ'[i]? = ρ[i]? := fun sh => by
  refine TgS.rec (motive_1 := fun sh => ∀ (d : PD) (ρ ρ' : En), tgSet sh d ρ = some ρ' → ∀ i, i ∉ tgVars sh → ρ'[i]? = ρ[i]?) (motive_2 := fun ts => ∀ (ds : List PD) (ρ ρ' : En), tgSets ts ds ρ = some ρ' → ∀ i, i ∉ tgsVars ts → ρ'[i]? = ρ[i]?) (fun i d ρ ρ' h j hj => ?_) (fun ts ih d ρ ρ' h j hj => ?_) (fun ds ρ ρ' h j hj => ?_) (fun t ts h1 h2 ds ρ ρ' h j hj => ?_) sh
  · unfold tgSet at h
    split at h
    · cases h
      exact List.getElem?_set_ne (fun e => hj (by unfold tgVars; simp [e]))
    · cases h
  · cases d with
    | tuple ds => unfold tgSet at h; exact ih ds ρ ρ' h j (by unfold tgVars at hj; exact hj)
    | _ => unfold tgSet at h; cases h
  · cases ds with
    | nil => unfold tgSets at h; cases h; rfl
    | cons _ _ => unfold tgSets at h; cases h
  · unfold tgsVars at hj
    rw [List.mem_append, not_or] at hj
    cases ds with
    | nil => unfold tgSets at h; cases h
    | cons d ds =>
      unfold tgSets at h
      split at h
      · rename_i ρ1 e1
        rw [h2 ds ρ1 ρ' h j hj.2, h1 d ρ ρ1 e1 j hj.1]
      · cases h
theorem back_pure {vs : List Nat} {ρt : En} (h : tgSet sh x (wipeE ρ vs) = some ρt) (hs : ∀ i, i ∈ tgVars sh → i ∈ vs) : Back vs ρ ρt ρ :=
  ⟨by rw [tgSet_len sh _ _ _ h, wipeE_length], fun i hi => by rw [tgSet_out sh _ _ _ h i fun z => hi (hs i z), wipeE_out hi], fun i _ => rfl⟩
theorem lcJ_map {α : Type} {vs : List Nat} (en f : α → PD) (hs : subB (tgVars sh) vs = true) : ∀ (l : List α), (∀ a, a ∈ l → ∃ ρt, tgSet sh (en a) (wipeE ρ vs) = some ρt ∧ ∀ Y, BlkX X scope Y → EJ Y W0 elt ρt (.ok ρt (.va (f a)))) →
    LcJ X scope vs sh elt [] (l.map en) ρ (l.map f) ρ
  | [], _ => .nil
  | a :: l, h => by
    obtain ⟨ρt, h1, h2⟩ := h a List.mem_cons_self
    exact .keep h1 (fun _ _ => ifs_nil) h2 (back_pure h1 (subB_ok hs)) (lcJ_map en f hs l fun b hb => h b (List.mem_cons_of_mem _ hb))
theorem lcJ_filter {α : Type} {vs : List Nat} {c : Expr} (en f : α → PD) (pr : α → Bool) (hs : subB (tgVars sh) vs = true) : ∀ (l : List α), (∀ a, a ∈ l → ∃ ρt, tgSet sh (en a) (wipeE ρ vs) = some ρt ∧ (∀ Y, BlkX X scope Y → TJ Y W0 c ρt ρt (pr a)) ∧ (pr a = true → ∀ Y, BlkX X scope Y → EJ Y W0 elt ρt (.ok ρt (.va (f a))))) →
    LcJ X scope vs sh elt [c] (l.map en) ρ ((l.filter pr).map f) ρ
  | [], _ => .nil
  | a :: l, h => by
    obtain ⟨ρt, h1, h2, h3⟩ := h a List.mem_cons_self
    have ih := lcJ_filter (c := c) en f pr hs l fun b hb => h b (List.mem_cons_of_mem _ hb)
    cases e : pr a with
    | true =>
      rw [List.filter_cons_of_pos e]
      exact .keep h1 (fun Y hY => ifs_one (e ▸ h2 Y hY)) (h3 e) (back_pure h1 (subB_ok hs)) ih
    | false =>
      rw [List.filter_cons_of_neg (by rw [e]; decide)]
      exact .skip h1 (fun Y hY => ifs_one (e ▸ h2 Y hY)) (back_pure h1 (subB_ok hs)) ih

/-! ### own things, by their names -/
theorem ct_some {s : Sl} {c : Ct} (h : s.ct = some c) : s = .ow c ∨ ∃ a, s = .br a c := by
  cases s with
  | un => cases h
  | va d => cases h
  | ow c' => cases h; exact .inl rfl
  | br a c' => cases h; exact .inr ⟨a, rfl⟩
/-- the same holder with another content -/
def Sl.upd : Sl → Ct → Sl
  | .ow _, c => .ow c
  | .br a _, c => .br a c
  | s, _ => s
/-- an own thing is changed in place -/
theorem re_upd {K : PySem.W.Frag} {F H : Hp} {σ : L2.St} {i : Nat} {a : Addr} {s : Sl} {c c' : Ct} {u : HO} (R : RE K F H σ ρ) (hd : ρ[i]? = some s) (hs : s.ct = some c) (ha : σ[i]? = some (some (.ref a))) (hu : CtOk K F u c') :
    RE K F (L2.upd H a u) σ (ρ.set i (s.upd c')) ∧ Ext σ ρ F H σ (ρ.set i (s.upd c')) F (L2.upd H a u) := by
  have hi : i < ρ.length := (List.getElem?_eq_some_iff.mp hd).1
  have hA : OwAt σ ρ i a := ⟨⟨s, c, hd, hs⟩, ha⟩
  obtain ⟨a', o', w1, w2, w3, w4, w5⟩ := R.ob i s c hd hs
  rw [ha] at w1
  cases w1
  have cu : (s.upd c').ct = some c' := by
    rcases ct_some hs with rfl | ⟨b, rfl⟩ <;> rfl
  have iu : (s.upd c').isAt a := by
    rcases ct_some hs with rfl | ⟨b, rfl⟩
    · trivial
    · exact w2
  have ow : ∀ j b, OwAt σ (ρ.set i (s.upd c')) j b → OwAt σ ρ j b := fun j b ⟨⟨s', c'', h1, h2⟩, h3⟩ => by
    by_cases z : j = i
    · subst z; exact ⟨⟨s, c, hd, hs⟩, h3⟩
    · rw [List.getElem?_set_ne (Ne.symm z)] at h1
      exact ⟨⟨s', c'', h1, h2⟩, h3⟩
  refine ⟨⟨by rw [List.length_set]; exact R.len, fun b o h => ?_, fun j d h => ?_, fun j s' c'' h1 h2 => ?_, fun j k b h1 h2 => R.inj j k b (ow j b h1) (ow k b h2)⟩, ⟨Same.refl _, fun b o h n => ?_, fun b o f _ _ => f, fun j b h => .inl ⟨j, ow j b h⟩, fun b h => ?_⟩⟩
  · rw [upd_ne (ne_of_none h w3)]
    exact R.fh b o h
  · by_cases z : j = i
    · subst z
      rw [List.getElem?_set_self hi] at h
      rw [Option.some.inj h] at cu
      cases cu
    · rw [List.getElem?_set_ne (Ne.symm z)] at h
      exact R.va j d h
  · by_cases z : j = i
    · subst z
      rw [List.getElem?_set_self hi] at h1
      cases h1
      rw [cu] at h2
      cases h2
      exact ⟨a, u, ha, iu, w3, upd_same, hu⟩
    · rw [List.getElem?_set_ne (Ne.symm z)] at h1
      obtain ⟨a2, u2, q1, q2, q3, q4, q5⟩ := R.ob j s' c'' h1 h2
      have ne : a2 ≠ a := fun e => z (R.inj j i a ⟨⟨s', c'', h1, h2⟩, by rw [q1, e]⟩ hA)
      exact ⟨a2, u2, q1, q2, q3, by rw [upd_ne ne]; exact q4, q5⟩
  · by_cases z : b = a
    · subst z; exact absurd hA (n i)
    · rw [upd_ne z]; exact h
  · by_cases z : b = a
    · subst z; rw [upd_same] at h; cases h
    · rw [upd_ne z] at h; exact h
/-- name.append(e) -/
theorem own_at {K : PySem.W.Frag} {F H : Hp} {σ : L2.St} {i : Nat} {s : Sl} {c : Ct} (R : RE K F H σ ρ) (hd : ρ[i]? = some s) (hs : s.ct = some c) : ∃ a u, σ[i]? = some (some (.ref a)) ∧ F a = none ∧ H a = some u ∧ CtOk K F u c := by
  obtain ⟨a, u, h1, _, h3, h4, h5⟩ := R.ob i s c hd hs
  exact ⟨a, u, h1, h3, h4, h5⟩
theorem ctOk_lst {K : PySem.W.Frag} {F : Hp} {u : HO} {ds : List PD} (h : CtOk K F u (.lst ds)) : ∃ vs, u = .lst vs ∧ DpAll K F vs ds := by
  cases u with
  | lst vs => exact ⟨vs, rfl, h⟩
  | _ => exact h.elim
theorem sj_append (i : Nat) {pn pa p2 : Pos} {s : Sl} (he : EJ X W e ρ (.ok ρ1 (.va d))) (hd : ρ1[i]? = some s := by rfl) (hs : s.ct = some (.lst ds) := by rfl) (h0 : ∃ s0 c0, ρ[i]? = some s0 ∧ s0.ct = some (.lst c0) := by exact ⟨_, _, rfl, rfl⟩) (hz : ds.length < sizeLine) (hN : X.N[i]? = some n := by rfl)
    (hv : Vis X.env.scope n := by first | exact Or.inl rfl | exact Or.inr (Or.inl rfl) | exact Or.inr (Or.inr rfl)) (hdb : (n == ("__debug__" : Str)) = false := by decide) (hcd : (n == ("__classdict__" : Str)) = false := by decide)
    (hst : starEach [e] X.env = (false, eval e X.env) :: starEach [] X.env := by rfl) (hpl : (backTo p2 (starEach [] X.env)).any (·.1) = false := by rfl)
    (hfew : ((backTo p2 (starEach [e] X.env)).all (fun x => !x.1) && (backToKw p2 (keywordEach [] X.env)).all (fun x => x.1.isSome)
      && decide (([e] : List Expr).length + ([] : List Keyword).length + (if ([] : List Keyword).isEmpty then 0 else 1) < 30)) = true := by rfl) (hline : (pa.endLine == p2.line) = true := by rfl)
    (hsw : swapsWith (.Call (.Attribute (.Name n pn) "append" pa) [e] [] p2) none pos.line X.env = pure false := by rfl) : SJ X W (.Expr (.Call (.Attribute (.Name n pn) "append" pa) [e] [] p2) pos) ρ (.nx (ρ1.set i (s.upd (.lst (ds ++ [d]))))) := by
  obtain ⟨t, h1, h2⟩ := he
  refine ⟨_, ps_expr (pe_bm PySem.F.plainAttrs_list PySem.F.slot_list_append PySem.F.type_list_append mt_append (pe_var hN hv hdb hcd) (pa_cons h1 pa_nil hst) rfl hfew hline hst hpl) hsw, fun F H σ D R q => ?_⟩
  obtain ⟨s0, c0, g1, g2⟩ := h0
  obtain ⟨a, u, e1, e2, e3, e4⟩ := own_at R g1 g2
  obtain ⟨vs0, rfl, _⟩ := ctOk_lst e4
  refine ⟨_, e1, .inl ⟨rfl, _, SqL.of e3⟩, h2 F H σ _ R fun F1 H1 v x1 R1 q1 => ?_⟩
  obtain ⟨a', u', f1, f2, f3, f4⟩ := own_at R1 hd hs
  rw [e1] at f1
  cases f1
  obtain ⟨vs, rfl, f5⟩ := ctOk_lst f4
  obtain ⟨R2, x2⟩ := re_upd R1 hd hs e1 (u := .lst (vs ++ [v])) (c' := .lst (ds ++ [d])) (show DpAll X.K F1 (vs ++ [v]) (ds ++ [d]) from DpAll.append f5 (.cons q1.1 .nil))
  exact ⟨a, vs, v, rfl, rfl, f3, by rw [DpAll.len f5]; exact hz, q F1 _ σ (x1.trans x2) R2⟩
/-- name[j] = e -/
theorem sj_setI (i : Nat) {pn ps : Pos} {s : Sl} {a : Expr} {j : Int} {k : Nat} (he : EJ X W e ρ (.ok ρ1 (.va d))) (hj : EJ X W a ρ1 (.ok ρ2 (.va (.int j)))) (hd : ρ2[i]? = some s := by rfl) (hs : s.ct = some (.lst ds) := by rfl) (h0 : ∃ s0 c0, ρ1[i]? = some s0 ∧ s0.ct = some c0 := by exact ⟨_, _, rfl, rfl⟩) (hk : ixN ds.length j = some k := by rfl) (hN : X.N[i]? = some n := by rfl)
    (hv : Vis X.env.scope n := by first | exact Or.inl rfl | exact Or.inr (Or.inl rfl) | exact Or.inr (Or.inr rfl)) (hdb : (n == ("__debug__" : Str)) = false := by decide) (hcd : (n == ("__classdict__" : Str)) = false := by decide)
    (ha : ∀ v, assign (.Subscript (.Name n pn) a ps) X.env v = (do
      let ov ← holding [v] (eval (.Name n pn) X.env)
      let iv ← holding [v, ov] (eval a X.env)
      standAt ps
      holding [v, ov, iv] (setItem ov iv v)
      release [v, ov, iv] []) := by intro _; rfl) (hsw : swapsWithSole [.Subscript (.Name n pn) a ps] e pos.line X.env = pure false := by rfl) (hw : swappedStores [.Subscript (.Name n pn) a ps] e X.env = pure none := by rfl)
    (h1 : (assignEach [.Subscript (.Name n pn) a ps] X.env).map (·.2) = [assign (.Subscript (.Name n pn) a ps) X.env] := by rfl) : SJ X W (.Assign [.Subscript (.Name n pn) a ps] e pos) ρ (.nx (ρ2.set i (s.upd (.lst (ds.set k d))))) := by
  obtain ⟨t, t1, t2⟩ := he
  obtain ⟨u, u1, u2⟩ := hj
  refine ⟨_, ps_asg t1 (pg_sub (pe_var hN hv hdb hcd) u1 set_list ha) hsw hw h1, fun F H σ D R q => t2 F H σ _ R fun F1 H1 v x1 R1 q1 => ?_⟩
  obtain ⟨s0, c0, g1, g2⟩ := h0
  obtain ⟨a0, w0, e1, e2, e3, e4⟩ := own_at R1 g1 g2
  refine ⟨_, e1, u2 F1 H1 σ _ R1 fun F2 H2 v2 x2 R2 q2 => ?_⟩
  cases (show Dp X.K F2 v2 (.int j) from q2.1)
  obtain ⟨a', u', f1, f2, f3, f4⟩ := own_at R2 hd hs
  rw [e1] at f1
  cases f1
  obtain ⟨vs, rfl, f5⟩ := ctOk_lst f4
  obtain ⟨R3, x3⟩ := re_upd R2 hd hs e1 (u := .lst (vs.set k v)) (c' := .lst (ds.set k d)) (show DpAll X.K F2 (vs.set k v) (ds.set k d) from DpAll.set f5 (Dp.mono q1.1 x2.ff) k)
  exact ⟨a0, vs, j, k, rfl, rfl, f3, by rw [DpAll.len f5]; exact hk, q F2 _ σ ((x1.trans x2).trans x3) R3⟩
/-- a call whose first argument is an own thing, by its name; the callee changes it -/
theorem ej_callBAny {Mf : Ct → List PD → Ct → PO → Prop} {k : Nat} {f : Str} {m : Str} {pm : Pos} {c c' : Ct} {s : Sl} {o : PO} (i : Nat) (C : Ok X W lv) (D : Def (md X) f k (spB X.K X.mg Mf)) (ha : AJ X W es ρ ρ1 ds) (hM : Mf c ds c' o) (hd : ρ1[i]? = some s) (hs : s.ct = some c) (h0 : ∃ s0 c0, ρ[i]? = some s0 ∧ s0.ct = some c0)
    (hk : k ≤ lv) (hg : Gl X f) (hN : X.N[i]? = some m) (hv : Vis X.env.scope m) (hdm : (m == ("__debug__" : Str)) = false) (hcd : (m == ("__classdict__" : Str)) = false)
    (hdb : (f == ("__debug__" : Str)) = false) (he : starEach (.Name m pm :: es) X.env = (false, eval (.Name m pm) X.env) :: starEach es X.env) (hpl : (backTo pos (starEach es X.env)).any (·.1) = false) :
    EJ X W (.Call (.Name f p) (.Name m pm :: es) [] pos) ρ (match o with | .ok r => .ok (ρ1.set i (s.upd c')) r | .ex n p => .ex (ρ1.set i (s.upd c')) n p) := by
  obtain ⟨fa, fd, ps, h1, h2, h3, h4⟩ := D.ex
  obtain ⟨t, a1, a2⟩ := ha
  refine ⟨_, pe_callS h4 (C.room.mono hk) hg h1 h2 h3 (fun σ => passAt C.takes σ) (pa_cons (pe_var hN hv hdm hcd) a1 he) hdb he hpl, fun F H σ Q R h => ?_⟩
  obtain ⟨s0, c0, g1, g2⟩ := h0
  obtain ⟨a0, w0, e1, e2, e3, e4⟩ := own_at R g1 g2
  refine ⟨_, e1, a2 F H σ _ R fun F1 H1 vs x1 R1 q1 => ?_⟩
  obtain ⟨a', u', f1, f2, f3, f4⟩ := own_at R1 hd hs
  rw [e1] at f1
  cases f1
  have hA : OwAt σ ρ1 i a0 := ⟨⟨s, c, hd, hs⟩, e1⟩
  refine ⟨F1, a0, u', c, vs, ds, c', o, rfl, hM, R1.fh, f2, f3, f4, q1, ?_⟩
  -- the heap behind the call
  have back : ∀ F' H' u, XtB a0 F1 H1 F' H' → H' a0 = some u → CtOk X.K F' u c' → RE X.K F' H' σ (ρ1.set i (s.upd c')) ∧ Ext σ ρ1 F1 H1 σ (ρ1.set i (s.upd c')) F' H' := fun F' H' u xb hu cu => by
    have hi : i < ρ1.length := (List.getElem?_eq_some_iff.mp hd).1
    have cus : (s.upd c').ct = some c' := by
      rcases ct_some hs with rfl | ⟨b, rfl⟩ <;> rfl
    obtain ⟨a', o', w1, w2, w3, w4, w5⟩ := R1.ob i s c hd hs
    rw [e1] at w1
    cases w1
    have iu : (s.upd c').isAt a0 := by
      rcases ct_some hs with rfl | ⟨b, rfl⟩
      · trivial
      · exact w2
    have ow : ∀ j b, OwAt σ (ρ1.set i (s.upd c')) j b → OwAt σ ρ1 j b := fun j b ⟨⟨s', c'', h1, h2⟩, h3⟩ => by
      by_cases z : j = i
      · rw [z]; exact ⟨⟨s, _, hd, hs⟩, z ▸ h3⟩
      · rw [List.getElem?_set_ne (Ne.symm z)] at h1
        exact ⟨⟨s', c'', h1, h2⟩, h3⟩
    refine ⟨⟨by rw [List.length_set]; exact R1.len, xb.fh, fun j d h => ?_, fun j s' c'' h1 h2 => ?_, fun j k b h1 h2 => R1.inj j k b (ow j b h1) (ow k b h2)⟩, ⟨xb.ff, fun b o h n => ?_, fun b o f h n => xb.nf b o f h, fun j b h => .inl ⟨j, ow j b h⟩, fun b h => ?_⟩⟩
    · by_cases z : j = i
      · subst z
        rw [List.getElem?_set_self hi] at h
        rw [Option.some.inj h] at cus
        cases cus
      · rw [List.getElem?_set_ne (Ne.symm z)] at h
        obtain ⟨v, q1, q2⟩ := R1.va j d h
        exact ⟨v, q1, Dp.mono q2 xb.ff⟩
    · by_cases z : j = i
      · subst z
        rw [List.getElem?_set_self hi] at h1
        cases h1
        rw [cus] at h2
        cases h2
        exact ⟨a0, u, e1, iu, xb.nf _ _ w3 w4, hu, cu⟩
      · rw [List.getElem?_set_ne (Ne.symm z)] at h1
        obtain ⟨a2, u2, q1, q2, q3, q4, q5⟩ := R1.ob j s' c'' h1 h2
        have ne : a2 ≠ a0 := fun e => z (R1.inj j i a0 ⟨⟨s', c'', h1, h2⟩, by rw [q1, e]⟩ hA)
        exact ⟨a2, u2, q1, q2, xb.nf _ _ q3 q4, xb.hh _ _ q4 ne, CtOk.mono q5 xb.ff⟩
    · by_cases z : b = a0
      · subst z; exact absurd hA (n i)
      · exact xb.hh b o h z
    · by_cases z : b = a0
      · subst z; rw [hu] at h; cases h
      · cases e : H1 b with
        | none => rfl
        | some o => rw [xb.hh b o e z] at h; cases h
  cases o with
  | ok r =>
    intro F' H' v u xb hu cu pr
    obtain ⟨R2, x2⟩ := back F' H' u xb hu cu
    refine h F' H' v (x1.trans x2) R2 (RsOk.pull (H1 := H1) ⟨pr, fun c a e1 e2 j z => ?_⟩ x1.tr)
    subst e1
    obtain ⟨a', o', h1, _, _, _, h5⟩ := pr
    rw [h1] at e2
    cases e2
    rcases x2.ow j a z with ⟨l, z'⟩ | z'
    · obtain ⟨_, o'', z2⟩ := R1.owAt z'
      rw [h5] at z2; cases z2
    · obtain ⟨_, o'', z2⟩ := R2.owAt z
      have : ∃ l, OwAt σ ρ1 l a := by
        obtain ⟨⟨s', c'', k1, k2⟩, k3⟩ := z
        by_cases zz : j = i
        · exact ⟨i, ⟨⟨s, _, hd, hs⟩, zz ▸ k3⟩⟩
        · rw [List.getElem?_set_ne (Ne.symm zz)] at k1
          exact ⟨j, ⟨⟨s', c'', k1, k2⟩, k3⟩⟩
      obtain ⟨l, z'⟩ := this
      obtain ⟨_, o'', z2⟩ := R1.owAt z'
      rw [h5] at z2; cases z2
  | ex m q =>
    intro F' H' u xb hu cu
    obtain ⟨R2, x2⟩ := back F' H' u xb hu cu
    exact h F' H' (x1.trans x2) R2
theorem ej_callB {Mf : Ct → List PD → Ct → PO → Prop} {k : Nat} {f : Str} {m : Str} {pm : Pos} {c c' : Ct} {s : Sl} {r : Rs} (i : Nat) (C : Ok X W lv) (D : Def (md X) f k (spB X.K X.mg Mf)) (ha : AJ X W es ρ ρ1 ds) (hM : Mf c ds c' (.ok r)) (hd : ρ1[i]? = some s := by rfl) (hs : s.ct = some c := by rfl) (h0 : ∃ s0 c0, ρ[i]? = some s0 ∧ s0.ct = some c0 := by exact ⟨_, _, rfl, rfl⟩)
    (hk : k ≤ lv := by decide) (hg : Gl X f := by rfl) (hN : X.N[i]? = some m := by rfl) (hv : Vis X.env.scope m := by first | exact Or.inl rfl | exact Or.inr (Or.inl rfl) | exact Or.inr (Or.inr rfl)) (hdm : (m == ("__debug__" : Str)) = false := by decide) (hcd : (m == ("__classdict__" : Str)) = false := by decide)
    (hdb : (f == ("__debug__" : Str)) = false := by decide) (he : starEach (.Name m pm :: es) X.env = (false, eval (.Name m pm) X.env) :: starEach es X.env := by rfl) (hpl : (backTo pos (starEach es X.env)).any (·.1) = false := by rfl) :
    EJ X W (.Call (.Name f p) (.Name m pm :: es) [] pos) ρ (.ok (ρ1.set i (s.upd c')) r) := ej_callBAny (o := .ok r) i C D ha hM hd hs h0 hk hg hN hv hdm hcd hdb he hpl
end

/-! ### a def's body -/
structure Frm where
  cdv : Value
  A : Around
  outer : List Env
  s : Shared
  H : Hp
  E : XK
abbrev fcx (M : Md) (N : List Str) (qual : Str) (sc : Scope) (f : Addr) (fr : Frm) : Cx := cxOf (L2.CX M.P M.w) M.P M.w M.K M.mg M.base N qual sc f fr.cdv fr.A fr.outer fr.s fr.H fr.E
abbrev fwx (fr : Frm) : WX := fun cls d _ H => fr.E cls d H
theorem ok_fcx {M : Md} {N ps : List Str} {qual : Str} {sc : Scope} {f : Addr} {fr : Frm} {k : Nat} (S : FnScope N ps sc) (hr : Room k (fcx M N qual sc f fr).A) : Ok (fcx M N qual sc f fr) (fwx fr) k :=
  ⟨rfl, passes_of rfl, takes_of rfl rfl rfl rfl, S.nd, hr⟩
def FJ (X : Cx) (W : WX) (body : List Stmt) (ρ : En) : PO → Prop
  | .ok r => (∃ ρ', BJ X W body ρ (.rt ρ' r)) ∨ (r = .va .none ∧ ∃ ρ', BJ X W body ρ (.nx ρ'))
  | .ex n p => ∃ ρ', BJ X W body ρ (.ex ρ' n p)
theorem dpAll_re {K : PySem.W.Frag} {F H : Hp} {vs : List V} {ds : List PD} {m : Nat} (h : DpAll K F vs ds) (e : Same F H) : RE K F H (vs.map some ++ List.replicate m none) (ds.map Sl.va ++ List.replicate m .un) := by
  have l := DpAll.len h
  have noct : ∀ (i : Nat) (s : Sl) (c : Ct), (ds.map Sl.va ++ List.replicate m .un)[i]? = some s → s.ct ≠ some c := fun i s c h1 h2 => by
    by_cases z : i < ds.length
    · rw [List.getElem?_append_left (by simpa using z), List.getElem?_map] at h1
      obtain ⟨d, _, rfl⟩ := Option.map_eq_some_iff.mp h1
      cases h2
    · rw [List.getElem?_append_right (by simpa using Nat.le_of_not_lt z), List.getElem?_replicate] at h1
      split at h1
      · cases h1; cases h2
      · cases h1
  refine ⟨by simp [l], e, fun i d h1 => ?_, fun i s c h1 h2 => absurd h2 (noct i s c h1), fun i j a ⟨⟨s, c, h1, h2⟩, _⟩ _ => absurd h2 (noct i s c h1)⟩
  by_cases z : i < ds.length
  · rw [List.getElem?_append_left (by simpa using z), List.getElem?_map] at h1
    obtain ⟨d', h2, h3⟩ := Option.map_eq_some_iff.mp h1
    cases h3
    obtain ⟨v, q1, q2⟩ := DpAll.get h h2
    refine ⟨v, ?_, q2⟩
    rw [List.getElem?_append_left (by rw [List.length_map, l]; exact z), List.getElem?_map, q1]
    rfl
  · rw [List.getElem?_append_right (by simpa using Nat.le_of_not_lt z), List.getElem?_replicate] at h1
    split at h1
    · cases h1
    · cases h1
theorem noOw_va {σ : L2.St} {ds : List PD} {m : Nat} {i : Nat} {a : Addr} : ¬ OwAt σ (ds.map Sl.va ++ List.replicate m .un) i a := fun ⟨⟨s, c, h1, h2⟩, _⟩ => by
  by_cases z : i < ds.length
  · rw [List.getElem?_append_left (by simpa using z), List.getElem?_map] at h1
    obtain ⟨d, _, rfl⟩ := Option.map_eq_some_iff.mp h1
    cases h2
  · rw [List.getElem?_append_right (by simpa using Nat.le_of_not_lt z), List.getElem?_replicate] at h1
    split at h1
    · cases h1; cases h2
    · cases h1
section
variable {M : Md} {x : Str} {st : Stmt} {f : Addr} {fd : FuncData} {N ps : List Str} {k : Nat}
/-- THE RULE for a def that changes nothing, at its place -/
theorem fn_mk {Mf : List PD → PO → Prop} (F : Fun M.K x x st f fd) (S : FnScope N ps (defScope st)) (hl : ∀ ds o, Mf ds o → ds.length = ps.length)
    (body : ∀ (fr : Frm), Ok (fcx M N x (defScope st) f fr) (fwx fr) k → ∀ ds o, Mf ds o → FJ (fcx M N x (defScope st) f fr) (fwx fr) (defBody st) (ds.map Sl.va ++ List.replicate (N.length - ds.length) .un) o) :
    FnOk M.P M.w M.K M.mg M.base (L2.CX M.P M.w) (k + 1) f fd ps (spP M.K M.mg Mf) := by
  refine F.okX S (fun vs H Q E h => ?_) fun cdv A outer s H vs Q E hr h => ?_
  · obtain ⟨F, ds, o, h1, _, h2, _⟩ := h
    rw [DpAll.len h2]
    exact hl ds o h1
  · obtain ⟨F0, ds, o, h1, h2, h3, h4⟩ := h
    have R0 := dpAll_re (m := N.length - vs.length) h3 h2
    have el : N.length - ds.length = N.length - vs.length := by rw [DpAll.len h3]
    have fin : ∀ {σ' ρ' F' H'}, Ext (start N vs) (ds.map Sl.va ++ List.replicate (N.length - vs.length) .un) F0 H σ' ρ' F' H' → RE M.K F' H' σ' ρ' → Xt F0 H F' H' := fun x R =>
      ⟨x.ff, fun b o g => x.hh b o g fun i => noOw_va, R.fh, fun b o f g => x.nf b o f g fun i => noOw_va⟩
    have bj := body ⟨cdv, A, outer, s, H, E⟩ (ok_fcx S hr) ds o h1
    rw [el] at bj
    cases o with
    | ok r =>
      rcases bj with ⟨ρ', t, t1, t2⟩ | ⟨rfl, ρ', t, t1, t2⟩
      · exact ⟨t, t1, t2 F0 H _ _ R0 fun F' H' σ' v x R q => h4 F' H' v (fin x R) q.1⟩
      · exact ⟨t, t1, t2 F0 H _ _ R0 fun F' H' σ' x R => h4 F' H' .non (fin x R) .non⟩
    | ex n p =>
      obtain ⟨ρ', t, t1, t2⟩ := bj
      exact ⟨t, t1, t2 F0 H _ _ R0 fun F' H' σ' x R => h4 F' H' (fin x R)⟩
/-- THE RULE for a def that changes nothing -/
theorem def_mk {Mf : List PD → PO → Prop} (F : Fun M.K x x st f fd) (hm : M.mg x = some (.ref f)) (hb : Binds M.K fd ps []) (S : FnScope N ps (defScope st)) (hl : ∀ ds o, Mf ds o → ds.length = ps.length)
    (body : ∀ (fr : Frm), Ok (fcx M N x (defScope st) f fr) (fwx fr) k → ∀ ds o, Mf ds o → FJ (fcx M N x (defScope st) f fr) (fwx fr) (defBody st) (ds.map Sl.va ++ List.replicate (N.length - ds.length) .un) o) :
    Def M x (k + 1) (spP M.K M.mg Mf) := ⟨⟨f, fd, ps, hm, F.kp, hb, fn_mk F S hl body⟩⟩
end
end Pj
set_option Elab.async false
set_option linter.all false
set_option maxRecDepth 100000
namespace Pj
open PySem PySem.Spec PyProof.Rows L2

/-! ### a def whose first argument is lent -/
section
variable {M : Md} {x : Str} {st : Stmt} {f : Addr} {fd : FuncData} {N ps : List Str} {k : Nat}
def FBJ (X : Cx) (W : WX) (body : List Stmt) (ρ : En) (a : Addr) (c' : Ct) : PO → Prop
  | .ok r => (∃ ρ', ρ'[0]? = some (.br a c') ∧ BJ X W body ρ (.rt ρ' r)) ∨ (r = .va .none ∧ ∃ ρ', ρ'[0]? = some (.br a c') ∧ BJ X W body ρ (.nx ρ'))
  | .ex n p => ∃ ρ', ρ'[0]? = some (.br a c') ∧ BJ X W body ρ (.ex ρ' n p)
theorem reB {K : PySem.W.Frag} {F H : Hp} {vs : List V} {ds : List PD} {m : Nat} {a : Addr} {u : HO} {c : Ct} (h : DpAll K F vs ds) (e : Same F H) (f : F a = none) (hu : H a = some u) (cu : CtOk K F u c) :
    RE K F H (some (.ref a) :: (vs.map some ++ List.replicate m none)) (.br a c :: (ds.map Sl.va ++ List.replicate m .un)) ∧ ∀ i b, OwAt (some (.ref a) :: (vs.map some ++ List.replicate m none)) (.br a c :: (ds.map Sl.va ++ List.replicate m .un)) i b → i = 0 ∧ b = a := by
  have R := dpAll_re (m := m) h e
  have ow : ∀ i b, OwAt (some (.ref a) :: (vs.map some ++ List.replicate m none)) (.br a c :: (ds.map Sl.va ++ List.replicate m .un)) i b → i = 0 ∧ b = a := fun i b ⟨⟨s, c, h1, h2⟩, h3⟩ => by
    cases i with
    | zero => cases h3; exact ⟨rfl, rfl⟩
    | succ i => exact absurd ⟨⟨s, c, h1, h2⟩, h3⟩ (noOw_va (σ := vs.map some ++ List.replicate m none) (i := i) (a := b))
  refine ⟨⟨by rw [List.length_cons, List.length_cons, R.len], e, fun i d h1 => ?_, fun i s c h1 h2 => ?_, fun i j b h1 h2 => (ow i b h1).1.trans (ow j b h2).1.symm⟩, ow⟩
  · cases i with
    | zero => cases h1
    | succ i => exact R.va i d h1
  · cases i with
    | zero =>
      cases h1
      cases h2
      exact ⟨a, u, rfl, rfl, f, hu, cu⟩
    | succ i => exact R.ob i s c h1 h2
theorem def_mkB {Mf : Ct → List PD → Ct → PO → Prop} (F : Fun M.K x x st f fd) (hm : M.mg x = some (.ref f)) (hb : Binds M.K fd ps []) (S : FnScope N ps (defScope st)) (hl : ∀ c ds c' o, Mf c ds c' o → ds.length + 1 = ps.length)
    (body : ∀ (fr : Frm), Ok (fcx M N x (defScope st) f fr) (fwx fr) k → ∀ (a : Addr) c ds c' o, Mf c ds c' o → FBJ (fcx M N x (defScope st) f fr) (fwx fr) (defBody st) (.br a c :: (ds.map Sl.va ++ List.replicate (N.length - (ds.length + 1)) .un)) a c' o) :
    Def M x (k + 1) (spB M.K M.mg Mf) := by
  refine ⟨⟨f, fd, ps, hm, F.kp, hb, F.okX S (fun vs H Q E h => ?_) fun cdv A outer s H vs Q E hr h => ?_⟩⟩
  · obtain ⟨F, a, u, c, vs', ds, c', o, rfl, h1, _, _, _, _, h2, _⟩ := h
    rw [List.length_cons, DpAll.len h2]
    exact hl c ds c' o h1
  · obtain ⟨F0, a, u, c, vs', ds, c', o, rfl, h1, h2, hf, hu, cu, h3, h4⟩ := h
    obtain ⟨R0, ow0⟩ := reB (m := N.length - (vs'.length + 1)) h3 h2 hf hu cu
    have el : N.length - (ds.length + 1) = N.length - (vs'.length + 1) := by rw [DpAll.len h3]
    have fin : ∀ {σ' ρ' F' H'}, Ext (some (.ref a) :: (vs'.map some ++ List.replicate (N.length - (vs'.length + 1)) none)) (.br a c :: (ds.map Sl.va ++ List.replicate (N.length - (vs'.length + 1)) .un)) F0 H σ' ρ' F' H' → RE M.K F' H' σ' ρ' → ρ'[0]? = some (.br a c') → XtB a F0 H F' H' ∧ ∃ u, H' a = some u ∧ CtOk M.K F' u c' := fun {σ' ρ' F' H'} x R e => by
      obtain ⟨a', u', q1, q2, q3, q4, q5⟩ := R.ob 0 _ c' e rfl
      have ea : a = a' := q2
      subst ea
      refine ⟨⟨x.ff, fun b o g ne => x.hh b o g fun i q => ne (ow0 i b q).2, R.fh, fun b o f g => ?_⟩, u', q4, q5⟩
      by_cases z : b = a
      · subst z; exact q3
      · exact x.nf b o f g fun i q => z (ow0 i b q).2
    have st0 : L2.start N (.ref a :: vs') = some (.ref a) :: (vs'.map some ++ List.replicate (N.length - (vs'.length + 1)) none) := by
      unfold L2.start
      simp
    have bj := body ⟨cdv, A, outer, s, H, E⟩ (ok_fcx S hr) a c ds c' o h1
    rw [el] at bj
    rw [st0]
    cases o with
    | ok r =>
      rcases bj with ⟨ρ', e, t, t1, t2⟩ | ⟨rfl, ρ', e, t, t1, t2⟩
      · refine ⟨t, t1, t2 F0 H _ _ R0 fun F' H' σ' v x R q => ?_⟩
        obtain ⟨xb, u', g1, g2⟩ := fin x R e
        exact h4 F' H' v u' xb g1 g2 q.1
      · refine ⟨t, t1, t2 F0 H _ _ R0 fun F' H' σ' x R => ?_⟩
        obtain ⟨xb, u', g1, g2⟩ := fin x R e
        exact h4 F' H' .non u' xb g1 g2 .non
    | ex n p =>
      obtain ⟨ρ', e, t, t1, t2⟩ := bj
      refine ⟨t, t1, t2 F0 H _ _ R0 fun F' H' σ' x R => ?_⟩
      obtain ⟨xb, u', g1, g2⟩ := fin x R e
      exact h4 F' H' u' xb g1 g2
end

/-! ### the operators' values -/
section
variable {K : PySem.W.Frag} {i j : Int} {d x y : PD} {ds es : List PD} {z : Rs}
theorem p2_I0 {g : Int → Int → Int} : P2 K (rI0 fun i j => .int (g i j)) (.int i) (.int j) (.va (.int (g i j))) := fun F H vx vy Q e hx hy q => by
  cases hx; cases hy
  exact ⟨i, j, rfl, rfl, q F H _ (Xt.refl e) (.int _)⟩
theorem p2_I {C : Int → Int → Prop} {g : Int → Int → Int} (hc : C i j) : P2 K (rI C fun i j => .int (g i j)) (.int i) (.int j) (.va (.int (g i j))) := fun F H vx vy Q e hx hy q => by
  cases hx; cases hy
  exact ⟨i, j, rfl, rfl, hc, q F H _ (Xt.refl e) (.int _)⟩
theorem p2_B0 {g : Int → Int → Bool} : P2 K (rI0 fun i j => .bl (g i j)) (.int i) (.int j) (.va (.bool (g i j))) := fun F H vx vy Q e hx hy q => by
  cases hx; cases hy
  exact ⟨i, j, rfl, rfl, q F H _ (Xt.refl e) (.bl _)⟩
theorem p2_eqD (h1 : SeqAt.shaped x = true) (h2 : SeqAt.shaped y = true) : P2 K (rEqD K) x y (.va (.bool (PyData.eqv x y))) := fun F H vx vy Q e hx hy q => ⟨x, y, Dp.mono hx e, Dp.mono hy e, h1, h2, q F H _ (Xt.refl e) (.bl _)⟩
theorem p2_neD (h1 : SeqAt.shaped x = true) (h2 : SeqAt.shaped y = true) : P2 K (rNeD K) x y (.va (.bool (!PyData.eqv x y))) := fun F H vx vy Q e hx hy q => ⟨x, y, Dp.mono hx e, Dp.mono hy e, h1, h2, q F H _ (Xt.refl e) (.bl _)⟩
def isN : PD → Bool
  | .none => true
  | _ => false
theorem dp_isN {F : Hp} {v : V} (h : Dp K F v d) : decide (v = .non) = isN d := by cases h <;> rfl
theorem p2_isN : P2 K (fun x y H Q => y = .non ∧ Q (.bl (decide (x = .non))) H) d .none (.va (.bool (isN d))) := fun F H vx vy Q e hx hy q => by
  cases hy
  rw [dp_isN hx]
  exact ⟨rfl, q F H _ (Xt.refl e) (.bl _)⟩
theorem p2_notN : P2 K (fun x y H Q => y = .non ∧ Q (.bl (!decide (x = .non))) H) d .none (.va (.bool (!isN d))) := fun F H vx vy Q e hx hy q => by
  cases hy
  rw [dp_isN hx]
  exact ⟨rfl, q F H _ (Xt.refl e) (.bl _)⟩
theorem p2_catA (hz : ds.length + es.length ≤ sizeLine) : P2 K (rCatA K) (.tuple ds) (.tuple es) (.va (.tuple (ds ++ es))) := fun F H vx vy Q e hx hy q => by
  cases hx with
  | @tup a vs _ h1 h2 =>
    cases hy with
    | @tup b ws _ g1 g2 =>
      refine ⟨a, b, vs, ws, rfl, rfl, Same.seqT e h1, Same.seqT e g1, by rw [DpAll.len h2, DpAll.len g2]; exact hz, fun z => ?_, fun z w => ?_, fun z w p np => ?_⟩
      · subst z
        cases h2
        exact q F H _ (Xt.refl e) (.tup g1 g2)
      · subst w
        cases g2
        rw [List.append_nil] at q
        exact q F H _ (Xt.refl e) (.tup h1 h2)
      · exact q _ _ _ (Xt.frz e np) (.tup (SqT.of upd_same) (DpAll.mono (DpAll.append h2 g2) (Xt.frz e np).ff))
theorem atI_dp {F : Hp} {vs : List V} (h : DpAll K F vs ds) (hj : atI ds j = some d) : ∃ v, atI vs j = some v ∧ Dp K F v d := by
  unfold atI at hj ⊢
  rw [DpAll.len h]
  cases hk : ixN ds.length j with
  | none => rw [hk] at hj; cases hj
  | some k =>
    rw [hk] at hj
    exact DpAll.get h hj
theorem p2_ixL (h : atI ds j = some d) : P2 K (rIxL K) (.list ds) (.int j) (.va d) := fun F H vx vy Q e hx hy q => by
  cases hy
  cases hx with
  | lst h1 h2 =>
    obtain ⟨v, g1, g2⟩ := atI_dp h2 h
    exact ⟨_, _, j, v, rfl, rfl, Same.seq e h1, g1, q F H _ (Xt.refl e) g2⟩
theorem p2_ixT (h : atI ds j = some d) : P2 K (rIxT K) (.tuple ds) (.int j) (.va d) := fun F H vx vy Q e hx hy q => by
  cases hy
  cases hx with
  | tup h1 h2 =>
    obtain ⟨v, g1, g2⟩ := atI_dp h2 h
    exact ⟨_, _, j, v, rfl, rfl, Same.seqT e h1, g1, q F H _ (Xt.refl e) g2⟩
theorem p1_U {g : Int → Int} : P1 K (rU fun i => .int (g i)) (.int i) (.va (.int (g i))) := fun F H vx Q e hx q => by
  cases hx
  exact ⟨i, rfl, q F H _ (Xt.refl e) (.int _)⟩
theorem pc_len {ds : List PD} {t : PD} (h : t = .list ds ∨ t = .tuple ds) : PC K (fun xs H Q => ∃ p ys, xs = [.ref p] ∧ (SqL K H p ys ∨ SqT K H p ys) ∧ Q (.int ys.length) H) [t] (.va (.int ds.length)) := fun F H vs Q e hx q => by
  cases hx with
  | cons r hx =>
    cases hx
    rcases h with rfl | rfl
    · cases r with
      | lst h1 h2 => exact ⟨_, _, rfl, .inl (Same.seq e h1), by rw [DpAll.len h2]; exact q F H _ (Xt.refl e) (.int _)⟩
    · cases r with
      | tup h1 h2 => exact ⟨_, _, rfl, .inr (Same.seqT e h1), by rw [DpAll.len h2]; exact q F H _ (Xt.refl e) (.int _)⟩
theorem pc_max2 : PC K (fun xs H Q => ∃ i j, xs = [.int i, .int j] ∧ Q (.int (if j > i then j else i)) H) [.int i, .int j] (.va (.int (max i j))) := fun F H vs Q e hx q => by
  cases hx with
  | cons r hx =>
    cases r
    cases hx with
    | cons r hx =>
      cases r
      cases hx
      have : (if j > i then j else i) = max i j := by
        split <;> omega
      exact ⟨i, j, rfl, by rw [this]; exact q F H _ (Xt.refl e) (.int _)⟩
theorem pc_min2 : PC K (fun xs H Q => ∃ i j, xs = [.int i, .int j] ∧ Q (.int (if j < i then j else i)) H) [.int i, .int j] (.va (.int (min i j))) := fun F H vs Q e hx q => by
  cases hx with
  | cons r hx =>
    cases r
    cases hx with
    | cons r hx =>
      cases r
      cases hx
      have : (if j < i then j else i) = min i j := by
        split <;> omega
      exact ⟨i, j, rfl, by rw [this]; exact q F H _ (Xt.refl e) (.int _)⟩
theorem pc_sumL {ns : List Int} : PC K (rSum K) [.list (ns.map .int)] (.va (.int ns.sum)) := fun F H vs Q e hx q => by
  cases hx with
  | cons r hx =>
    cases hx
    cases r with
    | lst h1 h2 =>
      rw [DpAll.ints h2] at h1
      exact ⟨_, ns, rfl, Same.seq e h1, q F H _ (Xt.refl e) (.int _)⟩
theorem pc_all {ns : List Bool} : PC K (rAll K) [.list (ns.map .bool)] (.va (.bool (ns.all id))) := fun F H vs Q e hx q => by
  cases hx with
  | cons r hx =>
    cases hx
    cases r with
    | lst h1 h2 =>
      rw [DpAll.bls h2] at h1
      exact ⟨_, ns, rfl, Same.seq e h1, q F H _ (Xt.refl e) (.bl _)⟩
theorem pc_any {ns : List Bool} : PC K (rAny K) [.list (ns.map .bool)] (.va (.bool (ns.any id))) := fun F H vs Q e hx q => by
  cases hx with
  | cons r hx =>
    cases hx
    cases r with
    | lst h1 h2 =>
      rw [DpAll.bls h2] at h1
      exact ⟨_, ns, rfl, Same.seq e h1, q F H _ (Xt.refl e) (.bl _)⟩
theorem pc_tupL : PC K (fun xs H Q => ∃ p ys, xs = [.ref p] ∧ ((SqL K H p ys ∧ ∀ l, H l = none → Q (.ref l) (upd H l (.tup ys))) ∨ (SqT K H p ys ∧ Q (.ref p) H))) [.list ds] (.va (.tuple ds)) := fun F H vs Q e hx q => by
  cases hx with
  | cons r hx =>
    cases hx
    cases r with
    | lst h1 h2 => exact ⟨_, _, rfl, .inl ⟨Same.seq e h1, fun p np => q _ _ _ (Xt.frz e np) (.tup (SqT.of upd_same) (DpAll.mono h2 (Xt.frz e np).ff))⟩⟩
theorem pc_tupT : PC K (fun xs H Q => ∃ p ys, xs = [.ref p] ∧ ((SqL K H p ys ∧ ∀ l, H l = none → Q (.ref l) (upd H l (.tup ys))) ∨ (SqT K H p ys ∧ Q (.ref p) H))) [.tuple ds] (.va (.tuple ds)) := fun F H vs Q e hx q => by
  cases hx with
  | cons r hx =>
    cases hx
    cases r with
    | tup h1 h2 => exact ⟨_, _, rfl, .inr ⟨Same.seqT e h1, q F H _ (Xt.refl e) (.tup h1 h2)⟩⟩
theorem pc_lstOf {t : PD} (h : t = .list ds ∨ t = .tuple ds) : PC K (fun xs H Q => ∃ p ys, xs = [.ref p] ∧ (SqL K H p ys ∨ SqT K H p ys) ∧ ∀ l, H l = none → Q (.ref l) (upd H l (.lst ys))) [t] (.ow (.lst ds)) := fun F H vs Q e hx q => by
  cases hx with
  | cons r hx =>
    cases hx
    rcases h with rfl | rfl
    · cases r with
      | lst h1 h2 => exact ⟨_, _, rfl, .inl (Same.seq e h1), fun p np => q _ _ _ (Xt.own e np) ⟨p, _, rfl, Same.free e np, upd_same, h2, np⟩⟩
    · cases r with
      | tup h1 h2 => exact ⟨_, _, rfl, .inr (Same.seqT e h1), fun p np => q _ _ _ (Xt.own e np) ⟨p, _, rfl, Same.free e np, upd_same, h2, np⟩⟩
theorem pc_intB {b : Bool} : PC K (fun xs H Q => (∃ i, xs = [.int i] ∧ Q (.int i) H) ∨ ∃ k, xs = [.bl k] ∧ Q (.int (if k then 1 else 0)) H) [.bool b] (.va (.int (if b then 1 else 0))) := fun F H vs Q e hx q => by
  cases hx with
  | cons r hx =>
    cases hx
    cases r
    exact .inr ⟨b, rfl, q F H _ (Xt.refl e) (.int _)⟩
/-- x in xs, xs a tuple or list of plain things -/
def flatD : PD → Bool
  | .none => true
  | .bool _ => true
  | .int _ => true
  | .str _ => true
  | _ => false
end

/-! ### calls of built-ins -/
section
variable {X : Cx} {W : WX} {lv : Nat} {e a b : Expr} {es : List Expr} {ρ ρ1 ρ2 : En} {ds : List PD} {d : PD} {z : Rs} {n : Str} {p pos : Pos} {id T : String} {r : List V → Hp → VK → Prop}
theorem ej_blt (hc : CallR X (.builtin id) r) (hm : X.mg n = none) (ha : AJ X W (e :: es) ρ ρ1 ds) (hp : PC X.K r ds z) (hv : bootBuiltins n = some (.builtin id) := by decide +kernel) (hg : Gl X n := by rfl) (hn : n ≠ "__name__" := by decide) (hdb : (n == ("__debug__" : Str)) = false := by decide)
    (he : starEach (e :: es) X.env = (false, eval e X.env) :: starEach es X.env := by rfl) (hpl : (backTo pos (starEach es X.env)).any (·.1) = false := by rfl) : EJ X W (.Call (.Name n p) (e :: es) [] pos) ρ (.ok ρ1 z) := by
  obtain ⟨t, a1, a2⟩ := ha
  refine ⟨_, pe_callB hc hg hm hv a1 hn hdb he hpl, fun F H σ Q R h => a2 F H σ _ R fun F1 H1 vs x1 R1 q1 => ?_⟩
  exact hp F1 H1 vs Q R1.fh q1 fun F' H' v t q => (h.pull x1).fin R1 t q
theorem ej_bty (hc : CallR X (.type T) r) (hm : X.mg n = none) (ha : AJ X W (e :: es) ρ ρ1 ds) (hp : PC X.K r ds z) (hv : bootBuiltins n = some (.type T) := by decide +kernel) (hg : Gl X n := by rfl) (hn : n ≠ "__name__" := by decide) (hdb : (n == ("__debug__" : Str)) = false := by decide)
    (he : starEach (e :: es) X.env = (false, eval e X.env) :: starEach es X.env := by rfl) (hpl : (backTo pos (starEach es X.env)).any (·.1) = false := by rfl) : EJ X W (.Call (.Name n p) (e :: es) [] pos) ρ (.ok ρ1 z) := by
  obtain ⟨t, a1, a2⟩ := ha
  refine ⟨_, pe_callTy hc hg hm hv a1 hn hdb he hpl, fun F H σ Q R h => a2 F H σ _ R fun F1 H1 vs x1 R1 q1 => ?_⟩
  exact hp F1 H1 vs Q R1.fh q1 fun F' H' v t q => (h.pull x1).fin R1 t q
/-- the type of plain data -/
def tyD : PD → String
  | .none => "NoneType"
  | .bool _ => "bool"
  | .int _ => "int"
  | .str _ => "str"
  | .list _ => "list"
  | .tuple _ => "tuple"
  | .dict _ => "dict"
theorem dp_tyX {K : PySem.W.Frag} {F H : Hp} {v : V} (h : Dp K F v d) (e : Same F H) : TyX K H v (.type (tyD d)) := by
  cases h with
  | non => exact .base .non
  | bl b => exact .base (.bl b)
  | int i => exact .base (.int i)
  | str s => exact .base (.str s)
  | lst hs _ =>
    rcases Same.seq e hs with (h | ⟨o, h⟩) | ⟨o, its, m, h1, h2, _⟩
    · exact .base (.lst h)
    · exact .base (.frz h)
    · exact .kList h1 h2
  | tup hs _ =>
    rcases Same.seqT e hs with (h | ⟨o, h⟩) | ⟨o, its, m, h1, h2, _⟩
    · exact .base (.tup h)
    · exact .fTuple h
    · exact .kTuple h1 h2
def isInt : PD → Bool
  | .int _ => true
  | .bool _ => true
  | _ => false
def isBool : PD → Bool
  | .bool _ => true
  | _ => false
def isStr : PD → Bool
  | .str _ => true
  | _ => false
def isTup : PD → Bool
  | .tuple _ => true
  | _ => false
def isLst : PD → Bool
  | .list _ => true
  | _ => false
theorem ej_isi {m : Str} {pm : Pos} {k : Bool} (hm : X.mg "isinstance" = none) (hm2 : X.mg m = none) (ha : EJ X W a ρ (.ok ρ1 (.va d))) (hk : kitB (tyD d) T = some k) (hv2 : bootBuiltins m = some (.type T) := by decide +kernel) (hg : Gl X "isinstance" := by rfl) (hg2 : Gl X m := by rfl) (hn2 : m ≠ "__name__" := by decide) (hdb2 : (m == ("__debug__" : Str)) = false := by decide)
    (he : starEach [a, .Name m pm] X.env = (false, eval a X.env) :: starEach [.Name m pm] X.env := by rfl) (he2 : starEach [.Name m pm] X.env = (false, eval (.Name m pm) X.env) :: starEach [] X.env := by rfl) (hpl : (backTo pos (starEach [.Name m pm] X.env)).any (·.1) = false := by rfl) :
    EJ X W (.Call (.Name "isinstance" p) [a, .Name m pm] [] pos) ρ (.ok ρ1 (.va (.bool k))) := by
  obtain ⟨t, a1, a2⟩ := ha
  refine ⟨_, pe_callB call_isi hg hm (by decide +kernel) (pa_cons a1 (pa_cons (pe_bltn (v := .ty T) hg2 hm2 hv2 rfl hn2 hdb2) pa_nil he2) he) (by decide) (by decide) he hpl, fun F H σ Q R h => a2 F H σ _ R fun F1 H1 v x1 R1 q1 => ?_⟩
  exact ⟨v, .ty T, .type (tyD d), .type T, k, rfl, .ty T, dp_tyX q1.1 R1.fh, kit_ty hk, (h.pull x1).fin R1 (Xt.refl R1.fh) (.bl k)⟩
theorem kit_int (d : PD) : kitB (tyD d) "int" = some (isInt d) := by
  cases d with
  | none => exact (show kitB "NoneType" "int" = some false by decide +kernel)
  | bool _ => exact (show kitB "bool" "int" = some true by decide +kernel)
  | int _ => exact (show kitB "int" "int" = some true by decide +kernel)
  | str _ => exact (show kitB "str" "int" = some false by decide +kernel)
  | list _ => exact (show kitB "list" "int" = some false by decide +kernel)
  | tuple _ => exact (show kitB "tuple" "int" = some false by decide +kernel)
  | dict _ => exact (show kitB "dict" "int" = some false by decide +kernel)
theorem kit_bool (d : PD) : kitB (tyD d) "bool" = some (isBool d) := by
  cases d with
  | none => exact (show kitB "NoneType" "bool" = some false by decide +kernel)
  | bool _ => exact (show kitB "bool" "bool" = some true by decide +kernel)
  | int _ => exact (show kitB "int" "bool" = some false by decide +kernel)
  | str _ => exact (show kitB "str" "bool" = some false by decide +kernel)
  | list _ => exact (show kitB "list" "bool" = some false by decide +kernel)
  | tuple _ => exact (show kitB "tuple" "bool" = some false by decide +kernel)
  | dict _ => exact (show kitB "dict" "bool" = some false by decide +kernel)
theorem kit_str (d : PD) : kitB (tyD d) "str" = some (isStr d) := by
  cases d with
  | none => exact (show kitB "NoneType" "str" = some false by decide +kernel)
  | bool _ => exact (show kitB "bool" "str" = some false by decide +kernel)
  | int _ => exact (show kitB "int" "str" = some false by decide +kernel)
  | str _ => exact (show kitB "str" "str" = some true by decide +kernel)
  | list _ => exact (show kitB "list" "str" = some false by decide +kernel)
  | tuple _ => exact (show kitB "tuple" "str" = some false by decide +kernel)
  | dict _ => exact (show kitB "dict" "str" = some false by decide +kernel)
theorem kit_tuple (d : PD) : kitB (tyD d) "tuple" = some (isTup d) := by
  cases d with
  | none => exact (show kitB "NoneType" "tuple" = some false by decide +kernel)
  | bool _ => exact (show kitB "bool" "tuple" = some false by decide +kernel)
  | int _ => exact (show kitB "int" "tuple" = some false by decide +kernel)
  | str _ => exact (show kitB "str" "tuple" = some false by decide +kernel)
  | list _ => exact (show kitB "list" "tuple" = some false by decide +kernel)
  | tuple _ => exact (show kitB "tuple" "tuple" = some true by decide +kernel)
  | dict _ => exact (show kitB "dict" "tuple" = some false by decide +kernel)
theorem kit_list (d : PD) : kitB (tyD d) "list" = some (isLst d) := by
  cases d with
  | none => exact (show kitB "NoneType" "list" = some false by decide +kernel)
  | bool _ => exact (show kitB "bool" "list" = some false by decide +kernel)
  | int _ => exact (show kitB "int" "list" = some false by decide +kernel)
  | str _ => exact (show kitB "str" "list" = some false by decide +kernel)
  | list _ => exact (show kitB "list" "list" = some true by decide +kernel)
  | tuple _ => exact (show kitB "tuple" "list" = some false by decide +kernel)
  | dict _ => exact (show kitB "dict" "list" = some false by decide +kernel)
end

/-! ### raise -/
section
variable {X : Cx} {W : WX} {lv : Nat} {ρ : En} {pos p p2 pos2 : Pos} {n m : Str} {j : Nat}
/-- an own exception class without __init__ over ValueError -/
structure ExcC (K : PySem.W.Frag) (mg : Str → Option Value) (n : Str) : Prop where
  ex : ∃ C, mg n = some (.ref C) ∧ PySem.W.excIn K C [.type "ValueError", .type "Exception", .type "BaseException", .type "object"] "ValueError.__new__" = true ∧ PySem.W.keepIn K (.ref C) = true ∧
    PySem.W.subIn K (.ref C) (.type "BaseException") = some true ∧ PySem.W.typeIn K (.ref C) = some (.type "type")
theorem sj_raise (C : Ok X W lv) (hx : ExcC X.K X.mg n) (hg : Gl X n := by rfl) (hdb : (n == ("__debug__" : Str)) = false := by decide) : SJ X W (.Raise (some (.Call (.Name n p) [.Constant (.str m) j p2] [] pos2)) none pos) ρ (.ex ρ n none) := by
  obtain ⟨c, h1, h2, h3, h4, h5⟩ := hx.ex
  refine ⟨_, ps_raise C.calm C.takes (pmk_own PySem.F.excBase_ValueError h2 h1 h3 (raises_own h4 h5) hg hdb), fun F H σ D R q => ?_⟩
  exact q F H σ Ext.refl R c h1
end
end Pj
namespace Pj
open PySem PySem.Spec PyProof.Rows L2
section
variable {X : Cx} {W : WX} {body : List Stmt} {ρ ρ' : En} {r : Rs} {n : Str} {p : Option (Str × PD)} {a : Addr} {c' : Ct}
theorem fj_rt {r0 : Rs} (h : BJ X W body ρ (.rt ρ' r)) (e : r = r0 := by rfl) : FJ X W body ρ (.ok r0) := .inl ⟨ρ', e ▸ h⟩
theorem fj_nx (h : BJ X W body ρ (.nx ρ')) : FJ X W body ρ (.ok (.va .none)) := .inr ⟨rfl, ρ', h⟩
theorem fj_ex (h : BJ X W body ρ (.ex ρ' n p)) : FJ X W body ρ (.ex n p) := ⟨ρ', h⟩
theorem fbj_rt {r0 : Rs} (h : BJ X W body ρ (.rt ρ' r)) (e2 : r = r0 := by rfl) (e : ρ'[0]? = some (.br a c') := by rfl) : FBJ X W body ρ a c' (.ok r0) := .inl ⟨ρ', e, e2 ▸ h⟩
theorem fbj_nx (h : BJ X W body ρ (.nx ρ')) (e : ρ'[0]? = some (.br a c') := by rfl) : FBJ X W body ρ a c' (.ok (.va .none)) := .inr ⟨rfl, ρ', e, h⟩
end
end Pj
namespace Pj
open PySem PySem.Spec PyProof.Rows L2
section
variable {X : Cx} {W : WX} {lv : Nat} {a b c : Expr} {ρ ρ1 ρ2 : En} {x y : PD} {u v : Int} {k : Bool} {pos : Pos}
theorem ej_ifI (h : TJ X W c ρ ρ1 k) (ha : k = true → EJ X W a ρ1 (.ok ρ2 (.va (.int u)))) (hb : k = false → EJ X W b ρ1 (.ok ρ2 (.va (.int v)))) : EJ X W (.IfExp c a b pos) ρ (.ok ρ2 (.va (.int (if k then u else v)))) := by
  cases k with
  | true => exact ej_if h ha fun z => nomatch z
  | false => exact ej_if h (fun z => nomatch z) hb
theorem ej_ifV (h : TJ X W c ρ ρ1 k) (ha : k = true → EJ X W a ρ1 (.ok ρ2 (.va x))) (hb : k = false → EJ X W b ρ1 (.ok ρ2 (.va y))) : EJ X W (.IfExp c a b pos) ρ (.ok ρ2 (.va (if k then x else y))) := by
  cases k with
  | true => exact ej_if h ha fun z => nomatch z
  | false => exact ej_if h (fun z => nomatch z) hb
theorem tj_eq (C : Ok X W lv) (ha : EJ X W a ρ (.ok ρ1 (.va x))) (hb : EJ X W b ρ1 (.ok ρ2 (.va y))) (hk : PyData.eqv x y = k := by rfl) (h1 : SeqAt.shaped x = true := by rfl) (h2 : SeqAt.shaped y = true := by rfl) : TJ X W (.Compare a [.Eq] [b] pos) ρ ρ2 k :=
  hk ▸ tj_cmp (op_eqD C.room.units) ha hb (p2_eqD h1 h2)
theorem tj_ne (C : Ok X W lv) (ha : EJ X W a ρ (.ok ρ1 (.va x))) (hb : EJ X W b ρ1 (.ok ρ2 (.va y))) (hk : PyData.eqv x y = k := by rfl) (h1 : SeqAt.shaped x = true := by rfl) (h2 : SeqAt.shaped y = true := by rfl) : TJ X W (.Compare a [.NotEq] [b] pos) ρ ρ2 (!k) :=
  hk ▸ tj_cmp (op_neD C.room.units) ha hb (p2_neD h1 h2)
theorem ej_eq (C : Ok X W lv) (ha : EJ X W a ρ (.ok ρ1 (.va x))) (hb : EJ X W b ρ1 (.ok ρ2 (.va y))) (hk : PyData.eqv x y = k := by rfl) (h1 : SeqAt.shaped x = true := by rfl) (h2 : SeqAt.shaped y = true := by rfl) : EJ X W (.Compare a [.Eq] [b] pos) ρ (.ok ρ2 (.va (.bool k))) :=
  hk ▸ ej_cmp (op_eqD C.room.units) ha hb (p2_eqD h1 h2)
theorem ej_ne (C : Ok X W lv) (ha : EJ X W a ρ (.ok ρ1 (.va x))) (hb : EJ X W b ρ1 (.ok ρ2 (.va y))) (hk : PyData.eqv x y = k := by rfl) (h1 : SeqAt.shaped x = true := by rfl) (h2 : SeqAt.shaped y = true := by rfl) : EJ X W (.Compare a [.NotEq] [b] pos) ρ (.ok ρ2 (.va (.bool (!k)))) :=
  hk ▸ ej_cmp (op_neD C.room.units) ha hb (p2_neD h1 h2)
end
end Pj
set_option Elab.async false
set_option linter.all false
set_option maxRecDepth 100000
namespace Pj
open PySem PySem.Spec PyProof.Rows L2

/-! ### a body that leaves: what it hands back -/
/-- by a return or a raise -/
def RJ (X : Cx) (W : WX) (body : List Stmt) (ρ : En) : PO → Prop
  | .ok r => ∃ ρ', BJ X W body ρ (.rt ρ' r)
  | .ex n p => ∃ ρ', BJ X W body ρ (.ex ρ' n p)
section
variable {X : Cx} {W : WX} {lv : Nat} {body ta tb rest : List Stmt} {st : Stmt} {ρ ρ1 ρ2 : En} {r : Rs} {n : Str} {p : Option (Str × PD)} {o : PO} {k : Bool} {c e : Expr} {pos : Pos}
theorem RJ.fj (h : RJ X W body ρ o) : FJ X W body ρ o := by
  cases o with
  | ok r => exact .inl h
  | ex n p => exact h
theorem fj_cons (h : SJ X W st ρ (.nx ρ1)) (g : FJ X W rest ρ1 o) : FJ X W (st :: rest) ρ o := by
  cases o with
  | ok r =>
    rcases g with ⟨ρ', g⟩ | ⟨e, ρ', g⟩
    · exact .inl ⟨ρ', bj_cons h g⟩
    · exact .inr ⟨e, ρ', bj_cons h g⟩
  | ex n p =>
    obtain ⟨ρ', g⟩ := g
    exact ⟨ρ', bj_cons h g⟩
theorem rj_cons (h : SJ X W st ρ (.nx ρ1)) (g : RJ X W rest ρ1 o) : RJ X W (st :: rest) ρ o := by
  cases o with
  | ok r =>
    obtain ⟨ρ', g⟩ := g
    exact ⟨ρ', bj_cons h g⟩
  | ex n p =>
    obtain ⟨ρ', g⟩ := g
    exact ⟨ρ', bj_cons h g⟩
theorem fj_ret (he : EJ X W e ρ (.ok ρ1 r)) (ho : o = .ok r := by rfl) : FJ X W (.Return (some e) pos :: rest) ρ o := by
  subst ho
  exact .inl ⟨ρ1, bj_out (sj_ret he)⟩
theorem rj_ret (he : EJ X W e ρ (.ok ρ1 r)) (ho : o = .ok r := by rfl) : RJ X W (.Return (some e) pos :: rest) ρ o := by
  subst ho
  exact ⟨ρ1, bj_out (sj_ret he)⟩
theorem sj_raiseE (h : SJ X W st ρ (.ex ρ1 n p)) (ho : o = .ex n p := by rfl) : RJ X W (st :: rest) ρ o := by
  subst ho
  exact ⟨ρ1, bj_out h⟩
theorem fj_ifR (hc : TJ X W c ρ ρ1 k) (h1 : k = true → RJ X W ta ρ1 o) (h2 : k = false → FJ X W rest ρ1 o) : FJ X W (.If c ta [] pos :: rest) ρ o := by
  cases k with
  | true =>
    cases o with
    | ok r =>
      obtain ⟨ρ', g⟩ := h1 rfl
      exact .inl ⟨ρ', bj_out (sj_if hc (fun _ => g) fun z => nomatch z)⟩
    | ex n p =>
      obtain ⟨ρ', g⟩ := h1 rfl
      exact ⟨ρ', bj_out (sj_if hc (fun _ => g) fun z => nomatch z)⟩
  | false => exact fj_cons (sj_if hc (fun z => nomatch z) fun _ => bj_nil) (h2 rfl)
theorem rj_ifR (hc : TJ X W c ρ ρ1 k) (h1 : k = true → RJ X W ta ρ1 o) (h2 : k = false → RJ X W rest ρ1 o) : RJ X W (.If c ta [] pos :: rest) ρ o := by
  cases k with
  | true =>
    cases o with
    | ok r =>
      obtain ⟨ρ', g⟩ := h1 rfl
      exact ⟨ρ', bj_out (sj_if hc (fun _ => g) fun z => nomatch z)⟩
    | ex n p =>
      obtain ⟨ρ', g⟩ := h1 rfl
      exact ⟨ρ', bj_out (sj_if hc (fun _ => g) fun z => nomatch z)⟩
  | false => exact rj_cons (sj_if hc (fun z => nomatch z) fun _ => bj_nil) (h2 rfl)
theorem fj_ifT (hc : TJ X W c ρ ρ1 k) (hk : k = true) (h1 : RJ X W ta ρ1 o) : FJ X W (.If c ta tb pos :: rest) ρ o := by
  subst hk
  cases o with
  | ok r =>
    obtain ⟨ρ', g⟩ := h1
    exact .inl ⟨ρ', bj_out (sj_if hc (fun _ => g) fun z => nomatch z)⟩
  | ex n p =>
    obtain ⟨ρ', g⟩ := h1
    exact ⟨ρ', bj_out (sj_if hc (fun _ => g) fun z => nomatch z)⟩
theorem rj_ifT (hc : TJ X W c ρ ρ1 k) (hk : k = true) (h1 : RJ X W ta ρ1 o) : RJ X W (.If c ta tb pos :: rest) ρ o := by
  subst hk
  cases o with
  | ok r =>
    obtain ⟨ρ', g⟩ := h1
    exact ⟨ρ', bj_out (sj_if hc (fun _ => g) fun z => nomatch z)⟩
  | ex n p =>
    obtain ⟨ρ', g⟩ := h1
    exact ⟨ρ', bj_out (sj_if hc (fun _ => g) fun z => nomatch z)⟩
theorem fj_ifF (hc : TJ X W c ρ ρ1 k) (hk : k = false) (h2 : FJ X W rest ρ1 o) : FJ X W (.If c ta [] pos :: rest) ρ o := by
  subst hk
  exact fj_cons (sj_if hc (fun z => nomatch z) fun _ => bj_nil) h2
theorem rj_ifF (hc : TJ X W c ρ ρ1 k) (hk : k = false) (h2 : RJ X W rest ρ1 o) : RJ X W (.If c ta [] pos :: rest) ρ o := by
  subst hk
  exact rj_cons (sj_if hc (fun z => nomatch z) fun _ => bj_nil) h2
theorem sj_ifT (hc : TJ X W c ρ ρ1 k) {o1 : SO} (h1 : BJ X W ta ρ1 o1) (hk : k = true := by rfl) : SJ X W (.If c ta tb pos) ρ o1 := by
  subst hk
  exact sj_if hc (fun _ => h1) fun z => nomatch z
theorem sj_ifF (hc : TJ X W c ρ ρ1 k) {o1 : SO} (h1 : BJ X W tb ρ1 o1) (hk : k = false := by rfl) : SJ X W (.If c ta tb pos) ρ o1 := by
  subst hk
  exact sj_if hc (fun z => nomatch z) fun _ => h1
def Goes (X : Cx) (W : WX) (rest : List Stmt) (o : PO) : SO → Prop
  | .nx ρ2 => FJ X W rest ρ2 o
  | .rt _ r => o = .ok r
  | .ex _ n p => o = .ex n p
  | _ => False
def GoesR (X : Cx) (W : WX) (rest : List Stmt) (o : PO) : SO → Prop
  | .nx ρ2 => RJ X W rest ρ2 o
  | .rt _ r => o = .ok r
  | .ex _ n p => o = .ex n p
  | _ => False
theorem fj_st {o1 : SO} (h : SJ X W st ρ o1) (g : Goes X W rest o o1) : FJ X W (st :: rest) ρ o := by
  cases o1 with
  | nx ρ2 => exact fj_cons h g
  | rt ρ' r =>
    have e : o = .ok r := g
    subst e
    exact .inl ⟨ρ', bj_out h⟩
  | ex ρ' n p =>
    have e : o = .ex n p := g
    subst e
    exact ⟨ρ', bj_out h⟩
  | bk _ => exact g.elim
  | ct _ => exact g.elim
theorem rj_st {o1 : SO} (h : SJ X W st ρ o1) (g : GoesR X W rest o o1) : RJ X W (st :: rest) ρ o := by
  cases o1 with
  | nx ρ2 => exact rj_cons h g
  | rt ρ' r =>
    have e : o = .ok r := g
    subst e
    exact ⟨ρ', bj_out h⟩
  | ex ρ' n p =>
    have e : o = .ex n p := g
    subst e
    exact ⟨ρ', bj_out h⟩
  | bk _ => exact g.elim
  | ct _ => exact g.elim
theorem fj_end (ho : o = .ok (.va .none) := by rfl) : FJ X W [] ρ o := by
  subst ho
  exact .inr ⟨rfl, ρ, bj_nil⟩
/-- if .. else .., both go on -/
theorem sj_ifB (hc : TJ X W c ρ ρ1 k) (h1 : k = true → BJ X W ta ρ1 (.nx ρ2)) (h2 : k = false → BJ X W tb ρ1 (.nx ρ2)) : SJ X W (.If c ta tb pos) ρ (.nx ρ2) := sj_if hc h1 h2
end

/-! ### operators by what they are given -/
def OpOk (X : Cx) (op : Operator) (x y : PD) (z : Rs) : Prop := ∃ r, OpR X (binaryOp op) r ∧ P2 X.K r x y z
section
variable {X : Cx} {W : WX} {lv : Nat} {a b c e : Expr} {ρ ρ1 ρ2 : En} {x y d : PD} {z : Rs} {i j : Int} {ds es : List PD} {pos : Pos} {k : Bool}
theorem add_ii : OpOk X .Add (.int i) (.int j) (.va (.int (i + j))) := ⟨_, op_add, p2_I0⟩
theorem add_tt (h : ds.length + es.length ≤ sizeLine) : OpOk X .Add (.tuple ds) (.tuple es) (.va (.tuple (ds ++ es))) := ⟨_, op_catA, p2_catA h⟩
theorem sub_ii : OpOk X .Sub (.int i) (.int j) (.va (.int (i - j))) := ⟨_, op_sub, p2_I0⟩
theorem mul_ii (h : CMul i j) : OpOk X .Mult (.int i) (.int j) (.va (.int (i * j))) := ⟨_, op_mul, p2_I h⟩
theorem fdiv_ii (h : CDiv i j) : OpOk X .FloorDiv (.int i) (.int j) (.va (.int (i / j))) := ⟨_, op_fdiv, p2_I h⟩
theorem fdivW_ii (h : CDivW i j) : OpOk X .FloorDiv (.int i) (.int j) (.va (.int (i / j))) := ⟨_, op_fdivW, p2_I h⟩
theorem mod_ii (h : 0 < j) : OpOk X .Mod (.int i) (.int j) (.va (.int (i % j))) := ⟨_, op_mod, p2_I (C := fun _ j => 0 < j) h⟩
theorem pow_ii (h : CPow i j) : OpOk X .Pow (.int i) (.int j) (.va (.int (i ^ j.toNat))) := ⟨_, op_pow, p2_I (g := fun i j => i ^ j.toNat) h⟩
theorem ej_bin {op : Operator} (ha : EJ X W a ρ (.ok ρ1 (.va x))) (hb : EJ X W b ρ1 (.ok ρ2 (.va y))) (h : OpOk X op x y z) : EJ X W (.BinOp a op b pos) ρ (.ok ρ2 z) := by
  obtain ⟨r, h1, h2⟩ := h
  exact ej_op h1 ha hb h2
theorem ej_add (ha : EJ X W a ρ (.ok ρ1 (.va x))) (hb : EJ X W b ρ1 (.ok ρ2 (.va y))) (h : OpOk X .Add x y z := by first | exact add_ii | exact add_tt (by simp only [List.length_cons, List.length_nil, List.length_append, List.length_map, sizeLine_eq]; omega)) : EJ X W (.BinOp a .Add b pos) ρ (.ok ρ2 z) := ej_bin ha hb h
theorem ej_sub (ha : EJ X W a ρ (.ok ρ1 (.va x))) (hb : EJ X W b ρ1 (.ok ρ2 (.va y))) (h : OpOk X .Sub x y z := by exact sub_ii) : EJ X W (.BinOp a .Sub b pos) ρ (.ok ρ2 z) := ej_bin ha hb h
theorem ej_mul (ha : EJ X W a ρ (.ok ρ1 (.va x))) (hb : EJ X W b ρ1 (.ok ρ2 (.va y))) (h : OpOk X .Mult x y z := by exact mul_ii (by unfold CMul; omega)) : EJ X W (.BinOp a .Mult b pos) ρ (.ok ρ2 z) := ej_bin ha hb h
theorem ej_fdiv (ha : EJ X W a ρ (.ok ρ1 (.va x))) (hb : EJ X W b ρ1 (.ok ρ2 (.va y))) (h : OpOk X .FloorDiv x y z := by exact fdiv_ii (by unfold CDiv; omega)) : EJ X W (.BinOp a .FloorDiv b pos) ρ (.ok ρ2 z) := ej_bin ha hb h
theorem ej_mod (ha : EJ X W a ρ (.ok ρ1 (.va x))) (hb : EJ X W b ρ1 (.ok ρ2 (.va y))) (h : OpOk X .Mod x y z := by exact mod_ii (by omega)) : EJ X W (.BinOp a .Mod b pos) ρ (.ok ρ2 z) := ej_bin ha hb h
theorem ej_pow (ha : EJ X W a ρ (.ok ρ1 (.va x))) (hb : EJ X W b ρ1 (.ok ρ2 (.va y))) (h : OpOk X .Pow x y z := by exact pow_ii (by unfold CPow; decide)) : EJ X W (.BinOp a .Pow b pos) ρ (.ok ρ2 z) := ej_bin ha hb h
theorem ej_neg (ha : EJ X W a ρ (.ok ρ1 (.va (.int i)))) : EJ X W (.UnaryOp .USub a pos) ρ (.ok ρ1 (.va (.int (-i)))) := ej_un un_neg ha p1_U
def itemsOf : PD → Option (List PD)
  | .list ds => some ds
  | .tuple ds => some ds
  | _ => none
theorem ej_at (ha : EJ X W a ρ (.ok ρ1 (.va x))) (hb : EJ X W b ρ1 (.ok ρ2 (.va (.int j)))) (hx : itemsOf x = some ds := by rfl) (hj : atI ds j = some d := by rfl) (hs : PlainIx b := by exact fun _ _ => rfl) : EJ X W (.Subscript a b pos) ρ (.ok ρ2 (.va d)) := by
  cases x with
  | list es => cases hx; exact ej_ix ix_list ha hb (p2_ixL hj) hs
  | tuple es => cases hx; exact ej_ix ix_tup ha hb (p2_ixT hj) hs
  | _ => cases hx
theorem it_seq {tg : Expr} (h : EJ X W e ρ (.ok ρ1 (.va x))) (hx : itemsOf x = some ds := by rfl) : ItJ X W tg e ρ ρ1 ds := by
  cases x with
  | list es => cases hx; exact it_list h
  | tuple es => cases hx; exact it_tup h
  | _ => cases hx
/-! ### comparisons of ints; None -/
theorem tj_lt (ha : EJ X W a ρ (.ok ρ1 (.va (.int i)))) (hb : EJ X W b ρ1 (.ok ρ2 (.va (.int j)))) : TJ X W (.Compare a [.Lt] [b] pos) ρ ρ2 (decide (i < j)) := tj_cmp op_lt ha hb (p2_B0 (g := fun i j => decide (i < j)))
theorem tj_le (ha : EJ X W a ρ (.ok ρ1 (.va (.int i)))) (hb : EJ X W b ρ1 (.ok ρ2 (.va (.int j)))) : TJ X W (.Compare a [.LtE] [b] pos) ρ ρ2 (decide (i ≤ j)) := tj_cmp op_le ha hb (p2_B0 (g := fun i j => decide (i ≤ j)))
theorem tj_gt (ha : EJ X W a ρ (.ok ρ1 (.va (.int i)))) (hb : EJ X W b ρ1 (.ok ρ2 (.va (.int j)))) : TJ X W (.Compare a [.Gt] [b] pos) ρ ρ2 (decide (j < i)) := tj_cmp op_gt ha hb (p2_B0 (g := fun i j => decide (j < i)))
theorem tj_ge (ha : EJ X W a ρ (.ok ρ1 (.va (.int i)))) (hb : EJ X W b ρ1 (.ok ρ2 (.va (.int j)))) : TJ X W (.Compare a [.GtE] [b] pos) ρ ρ2 (decide (j ≤ i)) := tj_cmp op_ge ha hb (p2_B0 (g := fun i j => decide (j ≤ i)))
theorem ej_lt (ha : EJ X W a ρ (.ok ρ1 (.va (.int i)))) (hb : EJ X W b ρ1 (.ok ρ2 (.va (.int j)))) : EJ X W (.Compare a [.Lt] [b] pos) ρ (.ok ρ2 (.va (.bool (decide (i < j))))) := ej_cmp op_lt ha hb (p2_B0 (g := fun i j => decide (i < j)))
theorem ej_le (ha : EJ X W a ρ (.ok ρ1 (.va (.int i)))) (hb : EJ X W b ρ1 (.ok ρ2 (.va (.int j)))) : EJ X W (.Compare a [.LtE] [b] pos) ρ (.ok ρ2 (.va (.bool (decide (i ≤ j))))) := ej_cmp op_le ha hb (p2_B0 (g := fun i j => decide (i ≤ j)))
theorem ej_gt (ha : EJ X W a ρ (.ok ρ1 (.va (.int i)))) (hb : EJ X W b ρ1 (.ok ρ2 (.va (.int j)))) : EJ X W (.Compare a [.Gt] [b] pos) ρ (.ok ρ2 (.va (.bool (decide (j < i))))) := ej_cmp op_gt ha hb (p2_B0 (g := fun i j => decide (j < i)))
theorem ej_ge (ha : EJ X W a ρ (.ok ρ1 (.va (.int i)))) (hb : EJ X W b ρ1 (.ok ρ2 (.va (.int j)))) : EJ X W (.Compare a [.GtE] [b] pos) ρ (.ok ρ2 (.va (.bool (decide (j ≤ i))))) := ej_cmp op_ge ha hb (p2_B0 (g := fun i j => decide (j ≤ i)))
theorem tj_isN {l : Nat} {p2 : Pos} (ha : EJ X W a ρ (.ok ρ1 (.va d))) : TJ X W (.Compare a [.Is] [.Constant .none l p2] pos) ρ ρ1 (isN d) := tj_cmp op_isN ha ej_non p2_isN
theorem tj_notN {l : Nat} {p2 : Pos} (ha : EJ X W a ρ (.ok ρ1 (.va d))) : TJ X W (.Compare a [.IsNot] [.Constant .none l p2] pos) ρ ρ1 (!isN d) := tj_cmp op_notN ha ej_non p2_notN
theorem ej_isN {l : Nat} {p2 : Pos} (ha : EJ X W a ρ (.ok ρ1 (.va d))) : EJ X W (.Compare a [.Is] [.Constant .none l p2] pos) ρ (.ok ρ1 (.va (.bool (isN d)))) := ej_cmp op_isN ha ej_non p2_isN
theorem ej_notN {l : Nat} {p2 : Pos} (ha : EJ X W a ρ (.ok ρ1 (.va d))) : EJ X W (.Compare a [.IsNot] [.Constant .none l p2] pos) ρ (.ok ρ1 (.va (.bool (!isN d)))) := ej_cmp op_notN ha ej_non p2_notN
/-- a <= b <= c of ints -/
theorem tj_lele {m : Int} (ha : EJ X W a ρ (.ok ρ (.va (.int i)))) (hb : EJ X W b ρ (.ok ρ (.va (.int j)))) (hc : i ≤ j → EJ X W c ρ (.ok ρ (.va (.int m)))) (hm : lastMarks [.LtE, .LtE] [b, c] = false := by with_unfolding_all rfl) : TJ X W (.Compare a [.LtE, .LtE] [b, c] pos) ρ ρ (decide (i ≤ j) && decide (j ≤ m)) :=
  tj_chain op_le op_le ha hb (p2_B0 (g := fun i j => decide (i ≤ j))) (fun h => hc (of_decide_eq_true h)) (fun _ => p2_B0 (g := fun i j => decide (i ≤ j))) hm
theorem ej_lele {m : Int} (ha : EJ X W a ρ (.ok ρ (.va (.int i)))) (hb : EJ X W b ρ (.ok ρ (.va (.int j)))) (hc : i ≤ j → EJ X W c ρ (.ok ρ (.va (.int m)))) (hm : lastMarks [.LtE, .LtE] [b, c] = false := by with_unfolding_all rfl) : EJ X W (.Compare a [.LtE, .LtE] [b, c] pos) ρ (.ok ρ (.va (.bool (decide (i ≤ j) && decide (j ≤ m))))) :=
  ej_chain op_le op_le ha hb (p2_B0 (g := fun i j => decide (i ≤ j))) (fun h => hc (of_decide_eq_true h)) (fun _ => p2_B0 (g := fun i j => decide (i ≤ j))) hm
end

/-! ### built-ins by what they are given -/
section
variable {X : Cx} {W : WX} {lv : Nat} {a b e : Expr} {ρ ρ1 ρ2 : En} {x y d : PD} {z : Rs} {i j : Int} {ds es : List PD} {pos p : Pos} {k : Bool}
theorem ej_len (hm : X.mg "len" = none) (ha : EJ X W a ρ (.ok ρ1 (.va x))) (hx : itemsOf x = some ds := by rfl) (hg : Gl X "len" := by rfl) (he : starEach [a] X.env = (false, eval a X.env) :: starEach [] X.env := by rfl) (hpl : (backTo pos (starEach [] X.env)).any (·.1) = false := by rfl) :
    EJ X W (.Call (.Name "len" p) [a] [] pos) ρ (.ok ρ1 (.va (.int ds.length))) :=
  ej_blt call_len_seq hm (aj_cons ha aj_nil he) (pc_len (by cases x <;> first | (cases hx; exact .inl rfl) | (cases hx; exact .inr rfl) | cases hx)) (by decide +kernel) hg (by decide) (by decide) he hpl
theorem ej_max2 (C : Ok X W lv) (hm : X.mg "max" = none) (ha : EJ X W a ρ (.ok ρ1 (.va (.int i)))) (hb : EJ X W b ρ1 (.ok ρ2 (.va (.int j)))) (hg : Gl X "max" := by rfl) (he : starEach [a, b] X.env = (false, eval a X.env) :: starEach [b] X.env := by rfl) (he2 : starEach [b] X.env = (false, eval b X.env) :: starEach [] X.env := by rfl) (hpl : (backTo pos (starEach [b] X.env)).any (·.1) = false := by rfl) :
    EJ X W (.Call (.Name "max" p) [a, b] [] pos) ρ (.ok ρ2 (.va (.int (max i j)))) := ej_blt (call_max2 C.calm) hm (aj_cons ha (aj_cons hb aj_nil he2) he) pc_max2 (by decide +kernel) hg (by decide) (by decide) he hpl
theorem ej_min2 (C : Ok X W lv) (hm : X.mg "min" = none) (ha : EJ X W a ρ (.ok ρ1 (.va (.int i)))) (hb : EJ X W b ρ1 (.ok ρ2 (.va (.int j)))) (hg : Gl X "min" := by rfl) (he : starEach [a, b] X.env = (false, eval a X.env) :: starEach [b] X.env := by rfl) (he2 : starEach [b] X.env = (false, eval b X.env) :: starEach [] X.env := by rfl) (hpl : (backTo pos (starEach [b] X.env)).any (·.1) = false := by rfl) :
    EJ X W (.Call (.Name "min" p) [a, b] [] pos) ρ (.ok ρ2 (.va (.int (min i j)))) := ej_blt (call_min2 C.calm) hm (aj_cons ha (aj_cons hb aj_nil he2) he) pc_min2 (by decide +kernel) hg (by decide) (by decide) he hpl
theorem ej_all {ns : List Bool} (C : Ok X W lv) (hm : X.mg "all" = none) (ha : EJ X W a ρ (.ok ρ1 (.va (.list (ns.map .bool))))) (hg : Gl X "all" := by rfl) (he : starEach [a] X.env = (false, eval a X.env) :: starEach [] X.env := by rfl) (hpl : (backTo pos (starEach [] X.env)).any (·.1) = false := by rfl) :
    EJ X W (.Call (.Name "all" p) [a] [] pos) ρ (.ok ρ1 (.va (.bool (ns.all id)))) := ej_blt (cr_all C.calm) hm (aj_cons ha aj_nil he) pc_all (by decide +kernel) hg (by decide) (by decide) he hpl
theorem ej_any {ns : List Bool} (C : Ok X W lv) (hm : X.mg "any" = none) (ha : EJ X W a ρ (.ok ρ1 (.va (.list (ns.map .bool))))) (hg : Gl X "any" := by rfl) (he : starEach [a] X.env = (false, eval a X.env) :: starEach [] X.env := by rfl) (hpl : (backTo pos (starEach [] X.env)).any (·.1) = false := by rfl) :
    EJ X W (.Call (.Name "any" p) [a] [] pos) ρ (.ok ρ1 (.va (.bool (ns.any id)))) := ej_blt (cr_any C.calm) hm (aj_cons ha aj_nil he) pc_any (by decide +kernel) hg (by decide) (by decide) he hpl
theorem ej_tupOf (hm : X.mg "tuple" = none) (ha : EJ X W a ρ (.ok ρ1 (.va x))) (hx : itemsOf x = some ds := by rfl) (hg : Gl X "tuple" := by rfl) (he : starEach [a] X.env = (false, eval a X.env) :: starEach [] X.env := by rfl) (hpl : (backTo pos (starEach [] X.env)).any (·.1) = false := by rfl) :
    EJ X W (.Call (.Name "tuple" p) [a] [] pos) ρ (.ok ρ1 (.va (.tuple ds))) := by
  cases x with
  | list es => cases hx; exact ej_bty call_tuple_of hm (aj_cons ha aj_nil he) pc_tupL (by decide +kernel) hg (by decide) (by decide) he hpl
  | tuple es => cases hx; exact ej_bty call_tuple_of hm (aj_cons ha aj_nil he) pc_tupT (by decide +kernel) hg (by decide) (by decide) he hpl
  | _ => cases hx
theorem ej_lstOf (hm : X.mg "list" = none) (ha : EJ X W a ρ (.ok ρ1 (.va x))) (hx : itemsOf x = some ds := by rfl) (hg : Gl X "list" := by rfl) (he : starEach [a] X.env = (false, eval a X.env) :: starEach [] X.env := by rfl) (hpl : (backTo pos (starEach [] X.env)).any (·.1) = false := by rfl) :
    EJ X W (.Call (.Name "list" p) [a] [] pos) ρ (.ok ρ1 (.ow (.lst ds))) :=
  ej_bty call_list_of hm (aj_cons ha aj_nil he) (pc_lstOf (by cases x <;> first | (cases hx; exact .inl rfl) | (cases hx; exact .inr rfl) | cases hx)) (by decide +kernel) hg (by decide) (by decide) he hpl
end
end Pj
set_option Elab.async false
set_option linter.all false
set_option maxRecDepth 100000
namespace Pj
open PySem PySem.Spec PyProof.Rows L2
section
variable {prog : Program} {w : World} {A : Around} {E : Value → Shared → Prop} {s : Shared} {l : Addr} {its : List Value} {ns : List Int} {Q : Value → Shared → Prop}
theorem iter_tupA {items : Array Value} {Q : Value → Shared → Prop} (hl : s.heap.IsTuple l items)
    (h : ∀ s₂ : Shared, s₂ = { s with heap := s.heap.push { cls := .type "tuple_iterator", data := .fields #[.ref l, .int 0 0] } } →
      (s₂.heap.IsTupleIter s.heap.objs.size l 0 ∧ s₂.heap.IsTuple l items) → (∀ b ∈ [s.heap.objs.size, l], b < s₂.heap.objs.size) → l ≠ s.heap.objs.size → Q (.ref s.heap.objs.size) s₂) :
    wpAny (model prog w) A (pyIter (.ref l)) Q E s := by
  have hlt : l < s.heap.objs.size := by obtain ⟨_, e, _⟩ := hl; exact Heap.lt_size e
  refine wpAny_pyIter_tuple hl (h _ rfl ⟨⟨_, Heap.get?_push_size _ rfl, rfl, rfl⟩, hl.push _⟩ (fun b hb => ?_) (Nat.ne_of_lt hlt))
  show b < (s.heap.push _).objs.size
  rw [Heap.size_push]
  rcases List.mem_cons.mp hb with rfl | hb
  · exact Nat.lt_succ_self _
  · rcases List.mem_cons.mp hb with rfl | hb
    · exact Nat.lt_succ_of_lt hlt
    · cases hb
theorem old_keptT {h' : Heap} (hk : ∀ b o, b ∉ [s.heap.objs.size] → (s.heap.push { cls := .type "tuple_iterator", data := .fields #[.ref l, .int 0 0] }).get? b = some o → h'.get? b = some o) :
    ∀ b o, s.heap.get? b = some o → h'.get? b = some o := fun b o e => by
  refine hk b o (fun hm => ?_) (Heap.get?_push_of_some _ e)
  rcases List.mem_cons.mp hm with e1 | hm
  · exact absurd (e1 ▸ Heap.lt_size e) (Nat.lt_irrefl _)
  · cases hm
theorem sumT_raw (hh : A.handled = none) (hl : s.heap.IsTuple l its.toArray) (hi : IntsAre its ns)
    (h : ∀ h' tk t', (∀ b o, s.heap.get? b = some o → h'.get? b = some o) → Q (.int ns.sum t') { s with heap := h', toks := tk }) : wpAny (model prog w) A (call (.builtin "sum") [.ref l]) Q E s := by
  obtain ⟨xs, e⟩ := hi.allInts.items
  have hn : numsOf (intItems xs).toList = ns := by rw [← e]; exact hi.numsOf
  rw [nums_intItems] at hn
  rw [e] at hl
  refine call_sum_walkG (iter_tupA hl fun s₂ e st hfp hlI => ?_)
  subst e
  refine ⟨_, _, _, _, _, _, numAt xs, rfl, Walks.tuple (A := A.in1) hh _ l hlI (intItems xs), st, hfp, (fun _ _ => intItems_at), fun h' tk t' hk => ?_⟩
  have := h h' tk t' (old_keptT hk)
  have e2 : preSum (numAt xs) xs.size = ns.sum := by
    rw [preSum_eq, List.take_of_length_le (by simp), hn]
  simpa [intItems, e2] using this
theorem maxT_raw (hh : A.handled = none) (hl : s.heap.IsTuple l its.toArray) (hi : IntsAre its ns) (hne : 0 < ns.length)
    (h : ∀ h' tk M t', (∀ b o, s.heap.get? b = some o → h'.get? b = some o) → M ∈ ns → (∀ a, a ∈ ns → a ≤ M) → Q (.int M t') { s with heap := h', toks := tk }) : wpAny (model prog w) A (call (.builtin "max") [.ref l]) Q E s := by
  obtain ⟨xs, e⟩ := hi.allInts.items
  have hn : numsOf (intItems xs).toList = ns := by rw [← e]; exact hi.numsOf
  rw [nums_intItems] at hn
  subst hn
  rw [e] at hl
  have hsz : 0 < xs.size := by simpa using hne
  refine call_max_walk (iter_tupA hl fun s₂ e st hfp hlI => ?_)
  subst e
  refine ⟨_, _, _, _, _, _, _, rfl, Walks.tuple (A := A.in1) hh _ l hlI (intItems xs), st, hfp, by simpa [intItems] using hsz, CmpOf.ints_gt (numAt xs) (fun _ _ => intItems_at), fun v h' tk hP hk => ?_⟩
  have hv : (intItems xs)[argBest (fun i j => decide (numAt xs i > numAt xs j)) (xs.size - 1)]? = some v := by simpa [intItems] using hP
  obtain ⟨t, rfl⟩ := intItems_at hv
  obtain ⟨h1, h2⟩ := argBest_gt (numAt xs) (xs.size - 1)
  refine h h' tk _ t (old_keptT hk) ?_ fun a ha => ?_
  · rw [numAt_eq]; exact PySem.getD_mem (by rw [List.length_map, Array.length_toList]; omega)
  · obtain ⟨j, hj, rfl⟩ := mem_getD ha
    rw [List.length_map, Array.length_toList] at hj
    rw [← numAt_eq]; exact h2 j (by omega)
theorem minT_raw (hh : A.handled = none) (hl : s.heap.IsTuple l its.toArray) (hi : IntsAre its ns) (hne : 0 < ns.length)
    (h : ∀ h' tk M t', (∀ b o, s.heap.get? b = some o → h'.get? b = some o) → M ∈ ns → (∀ a, a ∈ ns → M ≤ a) → Q (.int M t') { s with heap := h', toks := tk }) : wpAny (model prog w) A (call (.builtin "min") [.ref l]) Q E s := by
  obtain ⟨xs, e⟩ := hi.allInts.items
  have hn : numsOf (intItems xs).toList = ns := by rw [← e]; exact hi.numsOf
  rw [nums_intItems] at hn
  subst hn
  rw [e] at hl
  have hsz : 0 < xs.size := by simpa using hne
  refine call_min_walk (iter_tupA hl fun s₂ e st hfp hlI => ?_)
  subst e
  refine ⟨_, _, _, _, _, _, _, rfl, Walks.tuple (A := A.in1) hh _ l hlI (intItems xs), st, hfp, by simpa [intItems] using hsz, CmpOf.ints_lt (numAt xs) (fun _ _ => intItems_at), fun v h' tk hP hk => ?_⟩
  have hv : (intItems xs)[argBest (fun i j => decide (numAt xs i < numAt xs j)) (xs.size - 1)]? = some v := by simpa [intItems] using hP
  obtain ⟨t, rfl⟩ := intItems_at hv
  obtain ⟨h1, h2⟩ := argBest_lt (numAt xs) (xs.size - 1)
  refine h h' tk _ t (old_keptT hk) ?_ fun a ha => ?_
  · rw [numAt_eq]; exact PySem.getD_mem (by rw [List.length_map, Array.length_toList]; omega)
  · obtain ⟨j, hj, rfl⟩ := mem_getD ha
    rw [List.length_map, Array.length_toList] at hj
    rw [← numAt_eq]; exact h2 j (by omega)
end
section
variable {X : Cx} {W : WX} {lv : Nat} {a b e : Expr} {ρ ρ1 ρ2 : En} {x y d : PD} {z : Rs} {i j : Int} {ds es : List PD} {pos p : Pos} {k : Bool} {ns : List Int}
def rSumT (K : PySem.W.Frag) : List V → Hp → VK → Prop := fun vs H Q => ∃ (a : Addr) (ns : List Int), vs = [V.ref a] ∧ SqT K H a (ns.map V.int) ∧ Q (.int ns.sum) H
def rMaxT (K : PySem.W.Frag) : List V → Hp → VK → Prop := fun vs H Q => ∃ (a : Addr) (ns : List Int), vs = [V.ref a] ∧ SqT K H a (ns.map V.int) ∧ 0 < ns.length ∧ ∀ m, m ∈ ns → (∀ y, y ∈ ns → y ≤ m) → Q (.int m) H
def rMinT (K : PySem.W.Frag) : List V → Hp → VK → Prop := fun vs H Q => ∃ (a : Addr) (ns : List Int), vs = [V.ref a] ∧ SqT K H a (ns.map V.int) ∧ 0 < ns.length ∧ ∀ m, m ∈ ns → (∀ y, y ∈ ns → m ≤ y) → Q (.int m) H
theorem cr_sumT (hc : X.calm = true) : CallR X (.builtin "sum") (rSumT X.K) := by
  intro pins s σ H vs us Q I r h
  obtain ⟨a, ns, rfl, hs, q⟩ := h
  obtain ⟨its, rv, hl, _⟩ := I.tuple hs
  rw [Vals.ref1 r]
  exact sumT_raw (I.ok.hd hc) hl rv.ints fun h' tk t' hk => ⟨.int _, H, I.kept hk, ⟨_, rfl⟩, q⟩
theorem cr_maxT (hc : X.calm = true) : CallR X (.builtin "max") (rMaxT X.K) := by
  intro pins s σ H vs us Q I r h
  obtain ⟨a, ns, rfl, hs, hne, q⟩ := h
  obtain ⟨its, rv, hl, _⟩ := I.tuple hs
  rw [Vals.ref1 r]
  exact maxT_raw (I.ok.hd hc) hl rv.ints hne fun h' tk m t' hk h1 h2 => ⟨.int _, H, I.kept hk, ⟨_, rfl⟩, q m h1 h2⟩
theorem cr_minT (hc : X.calm = true) : CallR X (.builtin "min") (rMinT X.K) := by
  intro pins s σ H vs us Q I r h
  obtain ⟨a, ns, rfl, hs, hne, q⟩ := h
  obtain ⟨its, rv, hl, _⟩ := I.tuple hs
  rw [Vals.ref1 r]
  exact minT_raw (I.ok.hd hc) hl rv.ints hne fun h' tk m t' hk h1 h2 => ⟨.int _, H, I.kept hk, ⟨_, rfl⟩, q m h1 h2⟩
theorem pc_sumT {K : PySem.W.Frag} : PC K (rSumT K) [.tuple (ns.map .int)] (.va (.int ns.sum)) := fun F H vs Q e hx q => by
  cases hx with
  | cons r hx =>
    cases hx
    cases r with
    | tup h1 h2 =>
      rw [DpAll.ints h2] at h1
      exact ⟨_, ns, rfl, Same.seqT e h1, q F H _ (Xt.refl e) (.int _)⟩
theorem ej_sum (C : Ok X W lv) (hm : X.mg "sum" = none) (ha : EJ X W a ρ (.ok ρ1 (.va x))) (hx : itemsOf x = some (ns.map .int) := by rfl) (hg : Gl X "sum" := by rfl) (he : starEach [a] X.env = (false, eval a X.env) :: starEach [] X.env := by rfl) (hpl : (backTo pos (starEach [] X.env)).any (·.1) = false := by rfl) :
    EJ X W (.Call (.Name "sum" p) [a] [] pos) ρ (.ok ρ1 (.va (.int ns.sum))) := by
  cases x with
  | list es => cases hx; exact ej_blt (cr_sum C.calm) hm (aj_cons ha aj_nil he) pc_sumL (by decide +kernel) hg (by decide) (by decide) he hpl
  | tuple es => cases hx; exact ej_blt (cr_sumT C.calm) hm (aj_cons ha aj_nil he) pc_sumT (by decide +kernel) hg (by decide) (by decide) he hpl
  | _ => cases hx
/-- the greatest, the least of two or more -/
def maxL : List Int → Int
  | [] => 0
  | x :: xs => xs.foldl max x
def minL : List Int → Int
  | [] => 0
  | x :: xs => xs.foldl min x
theorem foldl_max : ∀ (xs : List Int) (x : Int), (xs.foldl max x ∈ x :: xs) ∧ ∀ y, y ∈ x :: xs → y ≤ xs.foldl max x
  | [], x => by simp
  | y :: xs, x => by
    obtain ⟨h1, h2⟩ := foldl_max xs (max x y)
    rw [List.foldl_cons]
    refine ⟨?_, fun z hz => ?_⟩
    · rcases List.mem_cons.mp h1 with e | e
      · rw [e]
        by_cases h : x ≤ y
        · rw [Int.max_eq_right h]; simp
        · rw [Int.max_eq_left (by omega)]; simp
      · simp [e]
    · have h3 := h2 (max x y) List.mem_cons_self
      rcases List.mem_cons.mp hz with e | e
      · subst e; omega
      · rcases List.mem_cons.mp e with e | e
        · subst e; omega
        · exact h2 z (List.mem_cons_of_mem _ e)
theorem foldl_min : ∀ (xs : List Int) (x : Int), (xs.foldl min x ∈ x :: xs) ∧ ∀ y, y ∈ x :: xs → xs.foldl min x ≤ y
  | [], x => by simp
  | y :: xs, x => by
    obtain ⟨h1, h2⟩ := foldl_min xs (min x y)
    rw [List.foldl_cons]
    refine ⟨?_, fun z hz => ?_⟩
    · rcases List.mem_cons.mp h1 with e | e
      · rw [e]
        by_cases h : x ≤ y
        · rw [Int.min_eq_left h]; simp
        · rw [Int.min_eq_right (by omega)]; simp
      · simp [e]
    · have h3 := h2 (min x y) List.mem_cons_self
      rcases List.mem_cons.mp hz with e | e
      · subst e; omega
      · rcases List.mem_cons.mp e with e | e
        · subst e; omega
        · exact h2 z (List.mem_cons_of_mem _ e)
theorem maxL_eq {m : Int} {xs : List Int} (h1 : m ∈ xs) (h2 : ∀ y, y ∈ xs → y ≤ m) : m = maxL xs := by
  cases xs with
  | nil => cases h1
  | cons x xs =>
    obtain ⟨a, b⟩ := foldl_max xs x
    have := h2 _ a
    have := b _ h1
    show m = xs.foldl max x
    omega
theorem minL_eq {m : Int} {xs : List Int} (h1 : m ∈ xs) (h2 : ∀ y, y ∈ xs → m ≤ y) : m = minL xs := by
  cases xs with
  | nil => cases h1
  | cons x xs =>
    obtain ⟨a, b⟩ := foldl_min xs x
    have := h2 _ a
    have := b _ h1
    show m = xs.foldl min x
    omega
theorem pc_maxT {K : PySem.W.Frag} (h : 0 < ns.length) : PC K (rMaxT K) [.tuple (ns.map .int)] (.va (.int (maxL ns))) := fun F H vs Q e hx q => by
  cases hx with
  | cons r hx =>
    cases hx
    cases r with
    | tup h1 h2 =>
      rw [DpAll.ints h2] at h1
      exact ⟨_, ns, rfl, Same.seqT e h1, h, fun m a b => by rw [maxL_eq a b]; exact q F H _ (Xt.refl e) (.int _)⟩
theorem pc_maxL {K : PySem.W.Frag} (h : 0 < ns.length) : PC K (rMax K) [.list (ns.map .int)] (.va (.int (maxL ns))) := fun F H vs Q e hx q => by
  cases hx with
  | cons r hx =>
    cases hx
    cases r with
    | lst h1 h2 =>
      rw [DpAll.ints h2] at h1
      exact ⟨_, ns, rfl, Same.seq e h1, h, fun m a b => by rw [maxL_eq a b]; exact q F H _ (Xt.refl e) (.int _)⟩
theorem pc_minT {K : PySem.W.Frag} (h : 0 < ns.length) : PC K (rMinT K) [.tuple (ns.map .int)] (.va (.int (minL ns))) := fun F H vs Q e hx q => by
  cases hx with
  | cons r hx =>
    cases hx
    cases r with
    | tup h1 h2 =>
      rw [DpAll.ints h2] at h1
      exact ⟨_, ns, rfl, Same.seqT e h1, h, fun m a b => by rw [minL_eq a b]; exact q F H _ (Xt.refl e) (.int _)⟩
theorem pc_minL {K : PySem.W.Frag} (h : 0 < ns.length) : PC K (rMin K) [.list (ns.map .int)] (.va (.int (minL ns))) := fun F H vs Q e hx q => by
  cases hx with
  | cons r hx =>
    cases hx
    cases r with
    | lst h1 h2 =>
      rw [DpAll.ints h2] at h1
      exact ⟨_, ns, rfl, Same.seq e h1, h, fun m a b => by rw [minL_eq a b]; exact q F H _ (Xt.refl e) (.int _)⟩
theorem ej_max1 (C : Ok X W lv) (hm : X.mg "max" = none) (ha : EJ X W a ρ (.ok ρ1 (.va x))) (h : 0 < ns.length) (hx : itemsOf x = some (ns.map .int) := by rfl) (hg : Gl X "max" := by rfl) (he : starEach [a] X.env = (false, eval a X.env) :: starEach [] X.env := by rfl) (hpl : (backTo pos (starEach [] X.env)).any (·.1) = false := by rfl) :
    EJ X W (.Call (.Name "max" p) [a] [] pos) ρ (.ok ρ1 (.va (.int (maxL ns)))) := by
  cases x with
  | list es => cases hx; exact ej_blt (cr_max C.calm) hm (aj_cons ha aj_nil he) (pc_maxL h) (by decide +kernel) hg (by decide) (by decide) he hpl
  | tuple es => cases hx; exact ej_blt (cr_maxT C.calm) hm (aj_cons ha aj_nil he) (pc_maxT h) (by decide +kernel) hg (by decide) (by decide) he hpl
  | _ => cases hx
theorem ej_min1 (C : Ok X W lv) (hm : X.mg "min" = none) (ha : EJ X W a ρ (.ok ρ1 (.va x))) (h : 0 < ns.length) (hx : itemsOf x = some (ns.map .int) := by rfl) (hg : Gl X "min" := by rfl) (he : starEach [a] X.env = (false, eval a X.env) :: starEach [] X.env := by rfl) (hpl : (backTo pos (starEach [] X.env)).any (·.1) = false := by rfl) :
    EJ X W (.Call (.Name "min" p) [a] [] pos) ρ (.ok ρ1 (.va (.int (minL ns)))) := by
  cases x with
  | list es => cases hx; exact ej_blt (cr_min C.calm) hm (aj_cons ha aj_nil he) (pc_minL h) (by decide +kernel) hg (by decide) (by decide) he hpl
  | tuple es => cases hx; exact ej_blt (cr_minT C.calm) hm (aj_cons ha aj_nil he) (pc_minT h) (by decide +kernel) hg (by decide) (by decide) he hpl
  | _ => cases hx
/-! ### x in xs -/
theorem flatD_V {K : PySem.W.Frag} {F : Hp} {v : V} (h : Dp K F v d) (f : flatD d = true) : flatV v = true := by
  cases h <;> first | rfl | cases f
theorem eqV_D {K : PySem.W.Frag} {F : Hp} {u v : V} {y : PD} (h : Dp K F u d) (g : Dp K F v y) (f : flatD d = true) (f' : flatD y = true) : eqV u v = PyData.eqv d y := by
  cases h with
  | lst _ _ => cases f
  | tup _ _ => cases f
  | non => cases g <;> first | (cases f'; done) | simp [eqV, PyData.eqv]
  | bl b => cases g <;> first | (cases f'; done) | simp [eqV, PyData.eqv]
  | int b => cases g <;> first | (cases f'; done) | simp [eqV, PyData.eqv]
  | str b => cases g <;> first | (cases f'; done) | simp [eqV, PyData.eqv]
theorem flatD_all {K : PySem.W.Frag} {F : Hp} : ∀ {vs : List V} {ds : List PD}, DpAll K F vs ds → ds.all flatD = true → vs.all flatV = true
  | _, _, .nil, _ => rfl
  | _, _, .cons h t, f => by
    rw [List.all_cons, Bool.and_eq_true] at f ⊢
    exact ⟨flatD_V h f.1, flatD_all t f.2⟩
theorem inV_D {K : PySem.W.Frag} {F : Hp} {u : V} (h : Dp K F u d) (f : flatD d = true) : ∀ {vs : List V} {ds : List PD}, DpAll K F vs ds → ds.all flatD = true → inV u vs = ds.any fun y => PyData.eqv y d
  | _, _, .nil, _ => rfl
  | _, _, .cons g t, f' => by
    rw [List.all_cons, Bool.and_eq_true] at f'
    have ih := inV_D h f t f'.2
    unfold inV at ih ⊢
    rw [List.any_cons, List.any_cons, ih, eqV_D g h f'.1 f]
theorem p2_in {neg : Bool} (hx : itemsOf y = some ds) (f : flatD d = true) (f' : ds.all flatD = true) : P2 X.K (rIn X.K neg) d y (.va (.bool (if neg then !(ds.any fun y => PyData.eqv y d) else ds.any fun y => PyData.eqv y d))) := fun F H vx vy Q e hd hy q => by
  cases hy with
  | lst h1 h2 =>
    cases hx
    refine ⟨_, _, rfl, .inl (Same.seq e h1), flatD_V hd f, flatD_all h2 f', ?_⟩
    rw [inV_D hd f h2 f']
    exact q F H _ (Xt.refl e) (.bl _)
  | tup h1 h2 =>
    cases hx
    refine ⟨_, _, rfl, .inr (Same.seqT e h1), flatD_V hd f, flatD_all h2 f', ?_⟩
    rw [inV_D hd f h2 f']
    exact q F H _ (Xt.refl e) (.bl _)
  | _ => cases hx
theorem tj_in (ha : EJ X W a ρ (.ok ρ1 (.va d))) (hb : EJ X W b ρ1 (.ok ρ2 (.va y))) (hx : itemsOf y = some ds := by rfl) (hk : (ds.any fun y => PyData.eqv y d) = k := by rfl) (f : flatD d = true := by rfl) (f' : ds.all flatD = true := by rfl) (hm : behindInMarks .In b = false := by rfl) : TJ X W (.Compare a [.In] [b] pos) ρ ρ2 k :=
  hk ▸ tj_cmp op_in_seq ha hb (p2_in (neg := false) hx f f') hm
theorem ej_in (ha : EJ X W a ρ (.ok ρ1 (.va d))) (hb : EJ X W b ρ1 (.ok ρ2 (.va y))) (hx : itemsOf y = some ds := by rfl) (hk : (ds.any fun y => PyData.eqv y d) = k := by rfl) (f : flatD d = true := by rfl) (f' : ds.all flatD = true := by rfl) (hm : behindInMarks .In b = false := by rfl) : EJ X W (.Compare a [.In] [b] pos) ρ (.ok ρ2 (.va (.bool k))) :=
  hk ▸ ej_cmp op_in_seq ha hb (p2_in (neg := false) hx f f') hm
theorem tj_nin (ha : EJ X W a ρ (.ok ρ1 (.va d))) (hb : EJ X W b ρ1 (.ok ρ2 (.va y))) (hx : itemsOf y = some ds := by rfl) (hk : (ds.any fun y => PyData.eqv y d) = k := by rfl) (f : flatD d = true := by rfl) (f' : ds.all flatD = true := by rfl) (hm : behindInMarks .NotIn b = false := by rfl) : TJ X W (.Compare a [.NotIn] [b] pos) ρ ρ2 (!k) :=
  hk ▸ tj_cmp op_notIn_seq ha hb (p2_in (neg := true) hx f f') hm
end
end Pj
namespace Pj
open PySem PySem.Spec PyProof.Rows L2
section
variable {X : Cx} {W : WX} {lv : Nat} {scope : Scope} {own : List (Str × Nat)} {sh : TgS} {elt tg iter e a c : Expr} {items ds : List PD} {ρ ρ1 ρ2 : En} {pos p : Pos} {d x y : PD} {α : Type}
/-- [elt for tg in iter], nothing changes -/
theorem ej_lcM (l : List α) (en f : α → PD) (C : Ok X W lv) (hi : ItJ X W tg iter ρ ρ1 items) (he : items = l.map en) (ok : BlkOk X.N X.env.scope scope own) (hg : ∀ (s : Shared) (H : Hp) (A : Addr) (cl : List (Str × Addr)) (fp : List Addr), PG (X.blk s H scope (compEnvC scope cl A X.env) fp) tg (gOf X.K sh))
    (hz : l.length < sizeLine) (hb : ∀ b, b ∈ l → ∃ ρt, tgSet sh (en b) (wipeE ρ1 (own.map (·.2))) = some ρt ∧ ∀ Y, BlkX X scope Y → EJ Y W0 elt ρt (.ok ρt (.va (f b))))
    (hs : subB (tgVars sh) (own.map (·.2)) = true := by rfl) (hv : noCt ρ1 (own.map (·.2)) = true := by rfl)
    (hf : ∀ x, foldedSetIterable iter X.env x = pure x := by intro _; rfl) : EJ X W (.ListComp elt [⟨tg, iter, [], 0⟩] scope pos) ρ (.ok ρ1 (.ow (.lst (l.map f)))) := by
  subst he
  exact ej_lc C hi ok hg (lcJ_map en f hs l hb) (by rw [List.length_map]; exact hz) hs hv hf
theorem ej_lcF (l : List α) (en f : α → PD) (pr : α → Bool) (C : Ok X W lv) (hi : ItJ X W tg iter ρ ρ1 items) (he : items = l.map en) (ok : BlkOk X.N X.env.scope scope own) (hg : ∀ (s : Shared) (H : Hp) (A : Addr) (cl : List (Str × Addr)) (fp : List Addr), PG (X.blk s H scope (compEnvC scope cl A X.env) fp) tg (gOf X.K sh))
    (hz : l.length < sizeLine) (hb : ∀ b, b ∈ l → ∃ ρt, tgSet sh (en b) (wipeE ρ1 (own.map (·.2))) = some ρt ∧ (∀ Y, BlkX X scope Y → TJ Y W0 c ρt ρt (pr b)) ∧ (pr b = true → ∀ Y, BlkX X scope Y → EJ Y W0 elt ρt (.ok ρt (.va (f b)))))
    (hs : subB (tgVars sh) (own.map (·.2)) = true := by rfl) (hv : noCt ρ1 (own.map (·.2)) = true := by rfl)
    (hf : ∀ x, foldedSetIterable iter X.env x = pure x := by intro _; rfl) : EJ X W (.ListComp elt [⟨tg, iter, [c], 0⟩] scope pos) ρ (.ok ρ1 (.ow (.lst ((l.filter pr).map f)))) := by
  subst he
  refine ej_lc C hi ok hg (lcJ_filter en f pr hs l hb) ?_ hs hv hf
  rw [List.length_map]
  exact Nat.lt_of_le_of_lt (List.length_filter_le _ _) hz
theorem sj_lcM (i : Nat) {py : Pos} {n : Str} (l : List α) (en f : α → PD) (C : Ok X W lv) (hi : ItJ X W tg iter ρ ρ1 items) (he : items = l.map en) (ok : BlkOk X.N X.env.scope scope own) (hg : ∀ (s : Shared) (H : Hp) (A : Addr) (cl : List (Str × Addr)) (fp : List Addr), PG (X.blk s H scope (compEnvC scope cl A X.env) fp) tg (gOf X.K sh))
    (hz : l.length < sizeLine) (hb : ∀ b, b ∈ l → ∃ ρt, tgSet sh (en b) (wipeE ρ1 (own.map (·.2))) = some ρt ∧ ∀ Y, BlkX X scope Y → EJ Y W0 elt ρt (.ok ρt (.va (f b))))
    (hsw : swapsWith (.ListComp elt [⟨tg, iter, [], 0⟩] scope pos) (some (.Name n py)) p.line X.env = pure true) (hs : subB (tgVars sh) (own.map (·.2)) = true := by rfl) (hv : noCt ρ1 (own.map (·.2)) = true := by rfl)
    (hf : ∀ x, foldedSetIterable iter X.env x = pure x := by intro _; rfl) (hy : X.N[i]? = some n := by rfl) (hyl : X.env.scope.names.lookup n = some .local := by rfl) (hlt : i < ρ1.length := by exact Nat.le_of_ble_eq_true rfl) : SJ X W (.Assign [.Name n py] (.ListComp elt [⟨tg, iter, [], 0⟩] scope pos) p) ρ (.nx (ρ1.set i (.ow (.lst (l.map f))))) := by
  subst he
  exact sj_setC i C hi ok hg (lcJ_map en f hs l hb) (by rw [List.length_map]; exact hz) hsw hs hv hf hy hyl hlt
theorem ej_allF (l : List α) (f : α → Bool) (C : Ok X W lv) (hm : X.mg "all" = none) (ha : EJ X W a ρ (.ok ρ1 (.va (.list (l.map fun b => .bool (f b)))))) (hg : Gl X "all" := by rfl) (he : starEach [a] X.env = (false, eval a X.env) :: starEach [] X.env := by rfl) (hpl : (backTo pos (starEach [] X.env)).any (·.1) = false := by rfl) :
    EJ X W (.Call (.Name "all" p) [a] [] pos) ρ (.ok ρ1 (.va (.bool (l.all f)))) := by
  have e : (l.map fun b => PyData.bool (f b)) = (l.map f).map .bool := by rw [List.map_map]; rfl
  rw [e] at ha
  have := ej_all (p := p) C hm ha hg he hpl
  rwa [List.all_map] at this
theorem ej_anyF (l : List α) (f : α → Bool) (C : Ok X W lv) (hm : X.mg "any" = none) (ha : EJ X W a ρ (.ok ρ1 (.va (.list (l.map fun b => .bool (f b)))))) (hg : Gl X "any" := by rfl) (he : starEach [a] X.env = (false, eval a X.env) :: starEach [] X.env := by rfl) (hpl : (backTo pos (starEach [] X.env)).any (·.1) = false := by rfl) :
    EJ X W (.Call (.Name "any" p) [a] [] pos) ρ (.ok ρ1 (.va (.bool (l.any f)))) := by
  have e : (l.map fun b => PyData.bool (f b)) = (l.map f).map .bool := by rw [List.map_map]; rfl
  rw [e] at ha
  have := ej_any (p := p) C hm ha hg he hpl
  rwa [List.any_map] at this
theorem ej_sumF (l : List α) (f : α → Int) (C : Ok X W lv) (hm : X.mg "sum" = none) (ha : EJ X W a ρ (.ok ρ1 (.va x))) (hx : itemsOf x = some (l.map fun b => .int (f b)) := by rfl) (hg : Gl X "sum" := by rfl) (he : starEach [a] X.env = (false, eval a X.env) :: starEach [] X.env := by rfl) (hpl : (backTo pos (starEach [] X.env)).any (·.1) = false := by rfl) :
    EJ X W (.Call (.Name "sum" p) [a] [] pos) ρ (.ok ρ1 (.va (.int ((l.map f).sum)))) := ej_sum C hm ha (by rw [hx, List.map_map]; rfl) hg he hpl
end
end Pj
set_option Elab.async false
set_option linter.all false
set_option maxRecDepth 100000
namespace Pj
open PySem PySem.Spec PyProof.Rows L2
theorem le_nil : Le [] [] := ⟨rfl, fun i s h => by simp at h⟩
theorem le_un {ρ' ρ : En} {s : Sl} (h : Le ρ' ρ) : Le (.un :: ρ') (s :: ρ) := by
  refine ⟨by rw [List.length_cons, List.length_cons, h.1], fun i t e => ?_⟩
  cases i with
  | zero => cases e; exact .inl rfl
  | succ i => exact h.2 i t e
theorem le_eq {ρ' ρ : En} {s : Sl} (h : Le ρ' ρ) : Le (s :: ρ') (s :: ρ) := by
  refine ⟨by rw [List.length_cons, List.length_cons, h.1], fun i t e => ?_⟩
  cases i with
  | zero => cases e; exact .inr rfl
  | succ i => exact h.2 i t e
section
variable {X : Cx} {W : WX} {lv : Nat} {body ta tb rest : List Stmt} {st : Stmt} {ρ ρ1 ρ2 : En} {r : Rs} {n : Str} {p : Option (Str × PD)} {o : SO} {po : PO} {k : Bool} {c e tg iter : Expr} {pos : Pos} {sh : TgS} {items : List PD} {α S : Type}
theorem bj_done (h : Le ρ2 ρ := by repeat (first | exact le_nil | apply le_eq | apply le_un)) : BJ X W [] ρ (.nx ρ2) := bj_nil.le h
theorem SJ.to (h : SJ X W st ρ (.nx ρ1)) (l : Le ρ2 ρ1 := by repeat (first | exact le_nil | apply le_eq | apply le_un)) : SJ X W st ρ (.nx ρ2) := h.le l
theorem bj_ret {r0 : Rs} (he : EJ X W e ρ (.ok ρ1 r)) (e0 : r = r0 := by rfl) : BJ X W (.Return (some e) pos :: rest) ρ (.rt ρ1 r0) := e0 ▸ bj_out (sj_ret he)
theorem bj_ifF (hc : TJ X W c ρ ρ1 k) (hk : k = false) (h2 : BJ X W rest ρ1 o) : BJ X W (.If c ta [] pos :: rest) ρ o := by
  subst hk
  exact bj_cons (sj_if hc (fun z => nomatch z) fun _ => bj_nil) h2
theorem bj_ifT (hc : TJ X W c ρ ρ1 k) (hk : k = true) (h1 : BJ X W ta ρ1 o) (ho : o.out := by trivial) : BJ X W (.If c ta tb pos :: rest) ρ o := by
  subst hk
  exact bj_out (sj_if hc (fun _ => h1) fun z => nomatch z) ho
/-- a for that searches and changes nothing -/
theorem forJ_find (l : List α) (en : α → PD) (g : α → Option Rs) (turn : ∀ a, a ∈ l → ∃ ρt, tgSet sh (en a) ρ = some ρt ∧ (g a = none → BJ X W body ρt (.nx ρ)) ∧ ∀ r, g a = some r → ∃ ρ', BJ X W body ρt (.rt ρ' r)) :
    (l.findSome? g = none → ForJ X W sh body (l.map en) ρ (.nx ρ)) ∧ ∀ r, l.findSome? g = some r → ∃ ρ', ForJ X W sh body (l.map en) ρ (.rt ρ' r) := by
  induction l with
  | nil => exact ⟨fun _ => .nil, fun r h => by cases h⟩
  | cons a l ih =>
    obtain ⟨ρt, h1, h2, h3⟩ := turn a List.mem_cons_self
    obtain ⟨i1, i2⟩ := ih fun b hb => turn b (List.mem_cons_of_mem _ hb)
    cases e : g a with
    | none =>
      rw [List.findSome?_cons, e]
      exact ⟨fun h => .nx h1 (h2 e) (i1 h), fun r h => by
        obtain ⟨ρ', q⟩ := i2 r h
        exact ⟨ρ', .nx h1 (h2 e) q⟩⟩
    | some r =>
      rw [List.findSome?_cons, e]
      refine ⟨fun h => (by cases h), fun r' h => ?_⟩
      cases h
      obtain ⟨ρ', q⟩ := h3 r e
      exact ⟨ρ', .rt h1 q⟩
theorem fj_find (l : List α) (en : α → PD) (g : α → Option Rs) (C : Ok X W lv) (hi : ItJ X W tg iter ρ ρ1 items) (he : items = l.map en) (hg : PG X tg (gOf X.K sh))
    (turn : ∀ a, a ∈ l → ∃ ρt, tgSet sh (en a) ρ1 = some ρt ∧ (g a = none → BJ X W body ρt (.nx ρ1)) ∧ ∀ r, g a = some r → ∃ ρ', BJ X W body ρt (.rt ρ' r))
    (h1 : l.findSome? g = none → FJ X W rest ρ1 po) (h2 : ∀ r, l.findSome? g = some r → po = .ok r) (hs : ∀ x, foldedSetIterable iter X.env x = pure x := by intro _; rfl) : FJ X W (.For tg iter body [] pos :: rest) ρ po := by
  subst he
  obtain ⟨a, b⟩ := forJ_find l en g turn
  cases e : l.findSome? g with
  | none => exact fj_cons (sj_for C hi hg (a e) hs) (h1 e)
  | some r =>
    obtain ⟨ρ', q⟩ := b r e
    exact fj_st (sj_for C hi hg q hs) (h2 r e)
/-- a for that carries a state -/
theorem forJ_fold (E : S → En) (step : S → α → S) (en : α → PD) (Inv : Nat → S → Prop) : ∀ (l : List α) (j : Nat) (s0 : S), (∀ i a s, l[i]? = some a → Inv (j + i) s → ∃ ρt, tgSet sh (en a) (E s) = some ρt ∧ BJ X W body ρt (.nx (E (step s a))) ∧ Inv (j + i + 1) (step s a)) → Inv j s0 →
    ForJ X W sh body (l.map en) (E s0) (.nx (E (l.foldl step s0))) ∧ Inv (j + l.length) (l.foldl step s0)
  | [], j, s0, _, h0 => ⟨.nil, h0⟩
  | a :: l, j, s0, turn, h0 => by
    obtain ⟨ρt, h1, h2, h3⟩ := turn 0 a s0 rfl h0
    obtain ⟨i1, i2⟩ := forJ_fold E step en Inv l (j + 1) (step s0 a) (fun i b s hb hs => by
      have e : j + 1 + i = j + (i + 1) := by omega
      rw [e] at hs ⊢
      exact turn (i + 1) b s (by simpa using hb) hs) h3
    exact ⟨.nx h1 h2 i1, by rw [List.length_cons, show j + (l.length + 1) = j + 1 + l.length by omega]; exact i2⟩
theorem sj_fold (E : S → En) (step : S → α → S) (l : List α) (en : α → PD) (Inv : Nat → S → Prop) (s0 : S) (C : Ok X W lv) (hi : ItJ X W tg iter ρ (E s0) items) (he : items = l.map en) (hg : PG X tg (gOf X.K sh)) (h0 : Inv 0 s0)
    (turn : ∀ i a s, l[i]? = some a → Inv i s → ∃ ρt, tgSet sh (en a) (E s) = some ρt ∧ BJ X W body ρt (.nx (E (step s a))) ∧ Inv (i + 1) (step s a)) (hs : ∀ x, foldedSetIterable iter X.env x = pure x := by intro _; rfl) : SJ X W (.For tg iter body [] pos) ρ (.nx (E (l.foldl step s0))) := by
  subst he
  refine sj_for C hi hg (forJ_fold E step en Inv l 0 s0 (fun i a s ha h => ?_) h0).1 hs
  rw [Nat.zero_add] at h ⊢
  exact turn i a s ha h
end
end Pj
namespace Pj
open PySem PySem.Spec PyProof.Rows L2
section
variable {X : Cx} {W : WX} {lv : Nat} {body ta tb rest : List Stmt} {st : Stmt} {ρ ρ1 ρ2 : En} {r : Rs} {n : Str} {p : Option (Str × PD)} {o : SO} {po : PO} {k : Bool} {c e tg iter : Expr} {pos : Pos} {sh : TgS} {items : List PD} {α S : Type}
/-- a for whose turns change nothing and go on -/
theorem sj_each (l : List α) (en : α → PD) (C : Ok X W lv) (hi : ItJ X W tg iter ρ ρ1 items) (he : items = l.map en) (hg : PG X tg (gOf X.K sh))
    (turn : ∀ a, a ∈ l → ∃ ρt, tgSet sh (en a) ρ1 = some ρt ∧ BJ X W body ρt (.nx ρ1)) (hs : ∀ x, foldedSetIterable iter X.env x = pure x := by intro _; rfl) : SJ X W (.For tg iter body [] pos) ρ (.nx ρ1) := by
  subst he
  refine sj_for C hi hg ((forJ_find l en (fun _ => none) fun a ha => ?_).1 (by induction l <;> simp_all)) hs
  obtain ⟨ρt, h1, h2⟩ := turn a ha
  exact ⟨ρt, h1, fun _ => h2, fun r z => by cases z⟩
end
end Pj
set_option Elab.async false
set_option linter.all false
set_option maxRecDepth 100000
namespace Pj
open PySem PySem.Spec PyProof.Rows L2
def backE (vs : List Nat) : Nat → En → En → En
  | i, s :: ρ, t :: ρe => (if vs.contains i then s else t) :: backE vs (i + 1) ρ ρe
  | _, _, _ => []
theorem backE_get (vs : List Nat) : ∀ (ρ ρe : En) (k i : Nat), ρ.length = ρe.length → (backE vs k ρ ρe)[i]? = if vs.contains (k + i) then ρ[i]? else ρe[i]?
  | [], [], k, i, _ => by unfold backE; simp
  | [], _ :: _, _, _, h => by cases h
  | _ :: _, [], _, _, h => by cases h
  | s :: ρ, t :: ρe, k, 0, _ => by
    unfold backE
    rw [List.getElem?_cons_zero, Nat.add_zero]
    split <;> rfl
  | s :: ρ, t :: ρe, k, i + 1, h => by
    unfold backE
    rw [List.getElem?_cons_succ, backE_get vs ρ ρe (k + 1) i (by simpa using h)]
    rw [show k + 1 + i = k + (i + 1) by omega]
    rfl
theorem backE_length (vs : List Nat) : ∀ (ρ ρe : En) (k : Nat), ρ.length = ρe.length → (backE vs k ρ ρe).length = ρe.length
  | [], [], k, _ => rfl
  | [], _ :: _, _, h => by cases h
  | _ :: _, [], _, h => by cases h
  | s :: ρ, t :: ρe, k, h => by
    unfold backE
    rw [List.length_cons, List.length_cons, backE_length vs ρ ρe (k + 1) (by simpa using h)]
theorem back_of {vs : List Nat} {ρ ρe ρ1 : En} (h : ρ1 = backE vs 0 ρ ρe) (hl : ρ.length = ρe.length) : Back vs ρ ρe ρ1 := by
  subst h
  refine ⟨backE_length vs ρ ρe 0 hl, fun i hi => ?_, fun i hi => ?_⟩
  · rw [backE_get vs ρ ρe 0 i hl, Nat.zero_add, if_neg (by simpa using hi)]
  · rw [backE_get vs ρ ρe 0 i hl, Nat.zero_add, if_pos (by simpa using hi)]
/-- a state threaded through a list -/
def mapS {α β S : Type} (f : S → α → β × S) : List α → S → List β × S
  | [], s => ([], s)
  | a :: l, s => ((f s a).1 :: (mapS f l (f s a).2).1, (mapS f l (f s a).2).2)
theorem mapS_length {α β S : Type} (f : S → α → β × S) : ∀ (l : List α) (s : S), (mapS f l s).1.length = l.length
  | [], _ => rfl
  | a :: l, s => by unfold mapS; rw [List.length_cons, List.length_cons, mapS_length f l]
section
variable {X : Cx} {W : WX} {lv : Nat} {scope : Scope} {own : List (Str × Nat)} {sh : TgS} {elt tg iter e a b c : Expr} {items ds : List PD} {ρ ρ1 ρ2 : En} {pos p : Pos} {d x y : PD} {α S : Type} {z1 z2 : Rs}
theorem lcturn {vs : List Nat} {ρt ρe : En} (h1 : tgSet sh x (wipeE ρ vs) = some ρt) (h2 : ∀ Y, BlkX X scope Y → EJ Y W0 elt ρt (.ok ρe (.va y))) (h3 : ρ1 = backE vs 0 ρ ρe) (h4 : ρ.length = ρe.length) :
    ∃ ρt ρe, tgSet sh x (wipeE ρ vs) = some ρt ∧ (∀ Y, BlkX X scope Y → EJ Y W0 elt ρt (.ok ρe (.va y))) ∧ Back vs ρ ρe ρ1 := ⟨ρt, ρe, h1, h2, back_of h3 h4⟩
theorem lcJ_fold {β : Type} {vs : List Nat} (E : S → En) (en : α → PD) (g : β → PD) (f : S → α → β × S) (Inv : S → Prop) : ∀ (l : List α) (s0 : S), Inv s0 →
    (∀ a s, a ∈ l → Inv s → (∃ ρt ρe, tgSet sh (en a) (wipeE (E s) vs) = some ρt ∧ (∀ Y, BlkX X scope Y → EJ Y W0 elt ρt (.ok ρe (.va (g (f s a).1)))) ∧ Back vs (E s) ρe (E (f s a).2)) ∧ Inv (f s a).2) →
    LcJ X scope vs sh elt [] (l.map en) (E s0) ((mapS f l s0).1.map g) (E (mapS f l s0).2)
  | [], s0, _, _ => .nil
  | a :: l, s0, h0, turn => by
    obtain ⟨⟨ρt, ρe, h1, h2, h3⟩, h4⟩ := turn a s0 List.mem_cons_self h0
    exact .keep h1 (fun _ _ => ifs_nil) h2 h3 (lcJ_fold E en g f Inv l _ h4 fun b s hb hs => turn b s (List.mem_cons_of_mem _ hb) hs)
/-- a, b = x, y of any kind -/
theorem sj_parR (i j : Nat) {x y : Str} {px py pt : Pos} {kt k2 pt2} (C : Ok X W lv) (ha : EJ X W a ρ (.ok ρ1 z1)) (hb : EJ X W b ρ1 (.ok ρ2 z2)) (hi : X.N[i]? = some x := by rfl) (hj : X.N[j]? = some y := by rfl) (hij : i ≠ j := by decide)
    (hx : X.env.scope.names.lookup x = some .local := by rfl) (hy : X.env.scope.names.lookup y = some .local := by rfl) (hli : i < ρ2.length := by exact Nat.le_of_ble_eq_true rfl) (hlj : j < ρ2.length := by exact Nat.le_of_ble_eq_true rfl)
    (he : starEach [a, b] X.env = (false, eval a X.env) :: starEach [b] X.env := by rfl) (he2 : starEach [b] X.env = (false, eval b X.env) :: starEach [] X.env := by rfl)
    (hw : swappedStores [.Tuple [.Name x px, .Name y py] kt pt] (.Tuple [a, b] k2 pt2) X.env = pure (some [x, y]) := by rfl)
    (hs : swapsWithSole [.Tuple [.Name x px, .Name y py] kt pt] (.Tuple [a, b] k2 pt2) pos.line X.env = pure false := by rfl) : SJ X W (.Assign [.Tuple [.Name x px, .Name y py] kt pt] (.Tuple [a, b] k2 pt2) pos) ρ (.nx ((ρ2.set i z1.sl).set j z2.sl)) := by
  obtain ⟨t, a1, a2⟩ := ha
  obtain ⟨u, b1, b2⟩ := hb
  refine ⟨_, ps_par C.calm C.nd hi hj hij hx hy (pa_cons a1 (pa_cons b1 pa_nil he2) he) hw hs, fun F H σ D R q => a2 F H σ _ R fun F1 H1 v1 x1 R1 q1 => b2 F1 H1 σ _ R1 fun F2 H2 v2 x2 R2 q2 => ?_⟩
  have q1' : RsOk X.K H F2 H2 σ ρ2 v1 z1 := by
    cases z1 with
    | va d => exact ⟨Dp.mono q1.1 x2.ff, fun _ _ z => nomatch z⟩
    | ow c =>
      obtain ⟨⟨p, o, rfl, f1, f2, f3, f4⟩, n⟩ := q1
      have n := n _ p rfl rfl
      refine ⟨⟨p, o, rfl, x2.nf _ _ f1 f2 n, x2.hh _ _ f2 n, CtOk.mono f3 x2.ff, f4⟩, fun c' p' _ e i z => ?_⟩
      cases e
      rcases x2.ow i p z with ⟨k, z'⟩ | z'
      · exact n k z'
      · rw [f2] at z'; cases z'
  obtain ⟨R3, g3⟩ := R2.set (H0 := H) (r := z1) hli q1'
  have q2' : RsOk X.K H F2 H2 (σ.set i (some v1)) (ρ2.set i z1.sl) v2 z2 := by
    have q2 := q2.pull x1.tr
    refine ⟨q2.1, fun c p e1 e2 k z => ?_⟩
    by_cases ek : k = i
    · subst ek
      obtain ⟨⟨s, c', h1, h2⟩, h3⟩ := z
      rw [List.getElem?_set_self hli] at h1
      rw [List.getElem?_set_self (by rw [R2.len]; exact hli)] at h3
      cases h1
      cases h3
      cases z1 with
      | va d => cases h2
      | ow c1 =>
        obtain ⟨p1, o1, e3, f1, f2, f3, f4⟩ := q1.1
        cases e3
        rename_i q2old
        subst e1
        cases e2
        obtain ⟨p2, o2, e4, g1, g2, g3, g4⟩ := q2old.1
        cases e4
        rw [f2] at g4
        cases g4
    · exact q2.2 c p e1 e2 k (z.set_ne ek)
  obtain ⟨R4, g4⟩ := R3.set (H0 := H) (r := z2) (i := j) (by rw [List.length_set]; exact hlj) q2'
  exact ⟨_, _, rfl, q F2 H2 _ (((x1.trans x2).set g3).set g4) R4⟩
end
end Pj
set_option Elab.async false
set_option linter.all false
set_option maxRecDepth 100000
namespace Pj
open PySem PySem.Spec PyProof.Rows L2
/-- as walk_of of the layer, with what is known of the top's other constants -/
theorem walk_ofX {l : PySem.W.OpenLaw} {n k : Nat} {q : Program} {loose : List Str} {XP : (Str → Option Value) → Heap → Prop} {YP : World → Heap → Prop} {d : DefRec} {K : Params → PySem.W.Frag} {CX : World → CXT} {sp : World → (Str → Option Value) → Sp} {x : Str}
    (hn : l.most = some n) (hn2 : n ≤ sizeLine) (hdf : d.params.defaults = []) (hr : Room k callerA)
    (hY : ∀ (w : World) (h : Heap), YP w h → (K w.params).In h)
    (F : ∀ (w : World) (mg : Str → Option Value) (fa : Addr) (h : Heap), (K w.params).In h → h.Ns mainGlobals mg → XP mg h → mg d.name = some (.ref fa) →
      ∃ fd : FuncData, (∀ (s : Shared) (u : Value), BindsTo s fd ⟨[u], []⟩ [(x, u)]) ∧
        ∀ base : Heap, (K w.params).In base → base.Ns mainGlobals mg → FnOk l.prog w (K w.params) mg base (CX w) k fa fd [x] (sp w mg))
    (hsp : ∀ (w : World) (mg : Str → Option Value) (H : Hp) (a : Addr) (ns : List Int), ns.length ≤ n → SqL (K w.params) H a (ns.map V.int) → sp w mg [.ref a] H (fun v _ => v = .bl true) fun _ _ _ => False)
    (hCX : ∀ (w : World) (H : Hp) (s : Shared) (e : Value) (s' : Shared), CX w [] H s (fun _ _ _ => False) e s' → False) :
    PySem.W.WalkO q loose XP YP l.row.toRowW d [] (fun f vs => PySem.call f vs) := by
  refine Att.attach_call hn hdf fun w s₀ s₁ mg mb fa o pm cd doc a vs ns G Y ho hd hcd hmg hobj hints hlen hg => ?_
  have KX := hY w _ Y
  obtain ⟨fd, hb, hF⟩ := F w mg fa _ KX G.T.g G.X hmg
  exact law_call KX G.T.g G.T.b G.T.builtins G.T.nolimit hg hobj hints (Nat.le_trans hlen hn2) hr hF hb (fun H hO hS => hsp w mg H a ns hlen hS) fun H e s' => hCX w H s₁ e s'
theorem cx_no {P : Program} {w : World} {o : List Env} {H : Hp} {s : Shared} {e : Value} {s' : Shared} (h : L2.CX P w o H s (fun _ _ _ => False) e s') : False := by
  obtain ⟨_, _, _, _, _, _, _, _, _, _, _, _, z⟩ := h
  exact z
/-- a constant of the module -/
structure GC (M : Md) (n : Str) (d : PD) : Prop where
  ex : ∃ u, M.mg n = some u ∧ GlV M.K u d
theorem gc_int {M : Md} {n : Str} {i : Int} (h : ∃ t, M.mg n = some (.int i t)) : GC M n (.int i) := by
  obtain ⟨t, h⟩ := h
  exact ⟨_, h, .int i, ⟨t, rfl⟩, fun _ => .int i⟩
theorem ej_const {X : Cx} {W : WX} {ρ : En} {n : Str} {d : PD} {pos : Pos} (h : GC (md X) n d) (hg : Gl X n := by rfl) (hd : (n == ("__debug__" : Str)) = false := by decide) : EJ X W (.Name n pos) ρ (.ok ρ (.va d)) := by
  obtain ⟨u, h1, h2⟩ := h.ex
  exact ej_glob h1 h2 hg hd
theorem gc_loose {M : Md} {lv : List (Str × PySem.W.WData)} {h : Heap} {n : Str} {i : Int} (x : PySem.W.LooseAre lv M.mg h) (hm : (n, PySem.W.WData.int i) ∈ lv) : GC M n (.int i) := by
  obtain ⟨v, a, b⟩ := x.val _ hm
  cases b
  exact gc_int ⟨_, a⟩
theorem gc_two {M : Md} {n x y : Str} {a : Addr} {od : Option Addr} {k : Nat} {sl : Array (Option Value)} {t1 t2} (h : M.mg n = some (.ref a)) (l : M.K.lookup a = some ⟨.type "tuple", od, .seq #[.str x t1, .str y t2] k, sl⟩) : GC M n (.tuple [.str x, .str y]) :=
  ⟨_, h, .ref a, rfl, fun F => .tup (.inr ⟨_, _, _, l, rfl, rfl, by rw [sizeLine_eq]; exact Nat.le_of_ble_eq_true rfl, .cons (show RelV (.str x) _ from ⟨_, rfl⟩) (.cons (show RelV (.str y) _ from ⟨_, rfl⟩) .nil)⟩) (.cons (.str x) (.cons (.str y) .nil))⟩
end Pj
set_option Elab.async false
set_option linter.all false
set_option maxRecDepth 100000
namespace Pj
open PySem PySem.Spec PyProof.Rows L2
section
variable {X : Cx} {W : WX} {lv : Nat} {body ta tb rest : List Stmt} {st : Stmt} {ρ ρ1 ρ2 : En} {r : Rs} {n : Str} {p : Option (Str × PD)} {o : SO} {po : PO} {k : Bool} {c e tg iter : Expr} {pos : Pos} {sh : TgS} {items items2 : List PD} {α S : Type}
theorem rngD0 {n : Nat} : rngD 0 n = (List.range n).map fun k => PyData.int (k : Nat) := by
  unfold rngD
  apply List.map_congr_left
  intro a _
  rw [Int.zero_add]
theorem rngD1 {n : Nat} : rngD 1 n = (List.range n).map fun k => PyData.int ((k + 1 : Nat) : Int) := by
  unfold rngD
  apply List.map_congr_left
  intro a _
  congr 1
  omega
theorem ItJ.to (h : ItJ X W tg iter ρ ρ1 items) (e : items = items2) : ItJ X W tg iter ρ ρ1 items2 := e ▸ h
theorem EJ.to {d d' : PD} (h : EJ X W e ρ (.ok ρ1 (.va d))) (e1 : d = d') : EJ X W e ρ (.ok ρ1 (.va d')) := e1 ▸ h
/-- a for that keeps an invariant of the environment -/
theorem forJ_inv (en : α → PD) (Inv : Nat → En → Prop) : ∀ (l : List α) (j : Nat) (ρ : En), Inv j ρ → (∀ i a ρ, l[i]? = some a → Inv (j + i) ρ → ∃ ρt ρ', tgSet sh (en a) ρ = some ρt ∧ BJ X W body ρt (.nx ρ') ∧ Inv (j + i + 1) ρ') →
    ∃ ρ', ForJ X W sh body (l.map en) ρ (.nx ρ') ∧ Inv (j + l.length) ρ'
  | [], j, ρ, h0, _ => ⟨ρ, .nil, h0⟩
  | a :: l, j, ρ, h0, turn => by
    obtain ⟨ρt, ρ', h1, h2, h3⟩ := turn 0 a ρ rfl h0
    obtain ⟨ρ2, i1, i2⟩ := forJ_inv en Inv l (j + 1) ρ' h3 fun i b s hb hs => by
      have e : j + 1 + i = j + (i + 1) := by omega
      rw [e] at hs ⊢
      exact turn (i + 1) b s (by simpa using hb) hs
    exact ⟨ρ2, .nx h1 h2 i1, by rw [List.length_cons, show j + (l.length + 1) = j + 1 + l.length by omega]; exact i2⟩
theorem sj_inv (Inv : Nat → En → Prop) (l : List α) (en : α → PD) (C : Ok X W lv) (hi : ItJ X W tg iter ρ ρ1 items) (he : items = l.map en) (hg : PG X tg (gOf X.K sh)) (h0 : Inv 0 ρ1)
    (turn : ∀ i a ρ, l[i]? = some a → Inv i ρ → ∃ ρt ρ', tgSet sh (en a) ρ = some ρt ∧ BJ X W body ρt (.nx ρ') ∧ Inv (i + 1) ρ') (hs : ∀ x, foldedSetIterable iter X.env x = pure x := by intro _; rfl) :
    ∃ ρ', SJ X W (.For tg iter body [] pos) ρ (.nx ρ') ∧ Inv l.length ρ' := by
  subst he
  obtain ⟨ρ', h1, h2⟩ := forJ_inv (X := X) (W := W) (body := body) (sh := sh) en Inv l 0 ρ1 h0 fun i a s ha h => by
    rw [Nat.zero_add] at h ⊢
    exact turn i a s ha h
  rw [Nat.zero_add] at h2
  exact ⟨ρ', sj_for C hi hg h1 hs, h2⟩
/-- the same ahead of the rest of a block -/
theorem bj_inv {o : SO} (Inv : Nat → En → Prop) (l : List α) (en : α → PD) (C : Ok X W lv) (hi : ItJ X W tg iter ρ ρ1 items) (he : items = l.map en) (hg : PG X tg (gOf X.K sh)) (h0 : Inv 0 ρ1)
    (turn : ∀ i a ρ, l[i]? = some a → Inv i ρ → ∃ ρt ρ', tgSet sh (en a) ρ = some ρt ∧ BJ X W body ρt (.nx ρ') ∧ Inv (i + 1) ρ') (go : ∀ ρ', Inv l.length ρ' → BJ X W rest ρ' o) (hs : ∀ x, foldedSetIterable iter X.env x = pure x := by intro _; rfl) :
    BJ X W (.For tg iter body [] pos :: rest) ρ o := by
  obtain ⟨ρ', h1, h2⟩ := sj_inv (pos := pos) Inv l en C hi he hg h0 turn hs
  exact bj_cons h1 (go ρ' h2)
theorem fj_inv (Inv : Nat → En → Prop) (l : List α) (en : α → PD) (C : Ok X W lv) (hi : ItJ X W tg iter ρ ρ1 items) (he : items = l.map en) (hg : PG X tg (gOf X.K sh)) (h0 : Inv 0 ρ1)
    (turn : ∀ i a ρ, l[i]? = some a → Inv i ρ → ∃ ρt ρ', tgSet sh (en a) ρ = some ρt ∧ BJ X W body ρt (.nx ρ') ∧ Inv (i + 1) ρ') (go : ∀ ρ', Inv l.length ρ' → FJ X W rest ρ' po) (hs : ∀ x, foldedSetIterable iter X.env x = pure x := by intro _; rfl) :
    FJ X W (.For tg iter body [] pos :: rest) ρ po := by
  obtain ⟨ρ', h1, h2⟩ := sj_inv (pos := pos) Inv l en C hi he hg h0 turn hs
  exact fj_cons h1 (go ρ' h2)
theorem findSome_mapR {α β γ : Type} (f : α → Option β) (h : β → γ) : ∀ l : List α, l.findSome? (fun a => (f a).map h) = (l.findSome? f).map h
  | [] => rfl
  | a :: l => by
    rw [List.findSome?_cons, List.findSome?_cons]
    cases f a with
    | none => exact findSome_mapR f h l
    | some y => rfl
/-- a block that finds something, or changes the environment to ρ2 -/
def SrJ (X : Cx) (W : WX) (body : List Stmt) (ρ ρ2 : En) : Option Rs → Prop
  | none => BJ X W body ρ (.nx ρ2)
  | some r => ∃ ρ', BJ X W body ρ (.rt ρ' r)
theorem SrJ.out {g : Option Rs} (h : SrJ X W body ρ ρ2 g) : (g = none → BJ X W body ρ (.nx ρ2)) ∧ ∀ r, g = some r → ∃ ρ', BJ X W body ρ (.rt ρ' r) :=
  ⟨fun e => by subst e; exact h, fun r e => by subst e; exact h⟩
theorem sr_for {tail : List Stmt} (l : List α) (en : α → PD) (g : α → Option Rs) (C : Ok X W lv) (hi : ItJ X W tg iter ρ ρ1 items) (he : items = l.map en) (hg : PG X tg (gOf X.K sh))
    (turn : ∀ a, a ∈ l → ∃ ρt, tgSet sh (en a) ρ1 = some ρt ∧ SrJ X W body ρt ρ1 (g a)) (go : SrJ X W tail ρ1 ρ2 none := by exact bj_done) (hs : ∀ x, foldedSetIterable iter X.env x = pure x := by intro _; rfl) :
    SrJ X W (.For tg iter body [] pos :: tail) ρ ρ2 (l.findSome? g) := by
  subst he
  obtain ⟨a, b⟩ := forJ_find (W := W) l en g fun a ha => by
    obtain ⟨ρt, h1, h2⟩ := turn a ha
    exact ⟨ρt, h1, h2.out⟩
  cases e : l.findSome? g with
  | none => exact bj_cons (sj_for C hi hg (a e) hs) go
  | some r =>
    obtain ⟨ρ', q⟩ := b r e
    exact ⟨_, bj_out (sj_for C hi hg q hs)⟩
theorem sr_cons {g : Option Rs} (h : SJ X W st ρ (.nx ρ1)) (go : SrJ X W rest ρ1 ρ2 g) : SrJ X W (st :: rest) ρ ρ2 g := by
  cases g with
  | none => exact bj_cons h go
  | some r =>
    obtain ⟨ρ', q⟩ := go
    exact ⟨ρ', bj_cons h q⟩
/-- if test: return r -/
theorem sr_ifR {g : Option Rs} (hc : TJ X W c ρ ρ1 k) (h1 : k = true → ∃ r ρ', BJ X W ta ρ1 (.rt ρ' r) ∧ g = some r) (h2 : k = false → SrJ X W rest ρ1 ρ2 g) : SrJ X W (.If c ta [] pos :: rest) ρ ρ2 g := by
  cases k with
  | true =>
    obtain ⟨r, ρ', q, e⟩ := h1 rfl
    subst e
    exact ⟨ρ', bj_ifT hc rfl q⟩
  | false =>
    have h := h2 rfl
    cases g with
    | none => exact bj_ifF hc rfl h
    | some r =>
      obtain ⟨ρ', q⟩ := h
      exact ⟨ρ', bj_cons (sj_if hc (fun z => nomatch z) fun _ => bj_nil) q⟩
theorem fj_search (l : List α) (en : α → PD) (g : α → Option Rs) (C : Ok X W lv) (hi : ItJ X W tg iter ρ ρ1 items) (he : items = l.map en) (hg : PG X tg (gOf X.K sh))
    (turn : ∀ a, a ∈ l → ∃ ρt, tgSet sh (en a) ρ1 = some ρt ∧ SrJ X W body ρt ρ1 (g a))
    (h1 : l.findSome? g = none → FJ X W rest ρ1 po) (h2 : ∀ r, l.findSome? g = some r → po = .ok r) (hs : ∀ x, foldedSetIterable iter X.env x = pure x := by intro _; rfl) : FJ X W (.For tg iter body [] pos :: rest) ρ po :=
  fj_find l en g C hi he hg (fun a ha => by
    obtain ⟨ρt, h1, h2⟩ := turn a ha
    exact ⟨ρt, h1, h2.out⟩) h1 h2 hs
end
end Pj
set_option Elab.async false
set_option linter.all false
set_option maxRecDepth 100000
namespace Pj
open PySem PySem.Spec PyProof.Rows L2
/-! ### the program's values, as plain functions -/
structure Ru where
  dec : Nat
  up : Bool
def half (b : Bool) : Str := if b then "up" else "down"
def eRu (r : Ru) : PD := .tuple [.int r.dec, .str (half r.up)]
def Ru.ok (r : Ru) : Prop := r.dec ≤ 2
def scl (r : Ru) : Int := match r.dec with
  | 0 => 100
  | 1 => 1000
  | _ => 10000
theorem scl_pos (r : Ru) : 0 < scl r ∧ scl r ≤ 10000 := by unfold scl; split <;> decide
theorem scl_at {r : Ru} (h : r.ok) : atI [PyData.int 100, .int 1000, .int 10000] (r.dec : Int) = some (.int (scl r)) := by
  obtain ⟨dec, up⟩ := r
  exact match dec, h with
    | 0, _ => rfl
    | 1, _ => rfl
    | 2, _ => rfl
theorem half_up (b : Bool) : (half b == ("up" : Str)) = b := by cases b <;> decide +kernel
theorem sh_half (b : Bool) : SeqAt.shaped (.str (half b)) = true := by cases b <;> decide +kernel
theorem sh_up : SeqAt.shaped (.str "up") = true := by decide +kernel
def isI (v : PD) (lo hi : Int) : Bool := match v with
  | .int i => decide (lo ≤ i) && decide (i ≤ hi)
  | _ => false
def isRule : PD → Bool
  | .tuple [a, .str s] => isI a 0 2 && (s == ("up" : Str) || s == ("down" : Str))
  | _ => false
theorem isRule_eRu {r : Ru} (h : r.ok) : isRule (eRu r) = true := by
  obtain ⟨dec, up⟩ := r
  exact match dec, up, h with
    | 0, true, _ => by decide +kernel
    | 1, true, _ => by decide +kernel
    | 2, true, _ => by decide +kernel
    | 0, false, _ => by decide +kernel
    | 1, false, _ => by decide +kernel
    | 2, false, _ => by decide +kernel
theorem isRule_elim {d : PD} (h : isRule d = true) : ∃ r : Ru, r.ok ∧ d = eRu r := by
  unfold isRule at h
  split at h
  · rename_i a s
    rw [Bool.and_eq_true] at h
    obtain ⟨h1, h2⟩ := h
    unfold isI at h1
    split at h1
    · rename_i i
      rw [Bool.and_eq_true, decide_eq_true_eq, decide_eq_true_eq] at h1
      rw [Bool.or_eq_true, beq_iff_eq, beq_iff_eq] at h2
      refine ⟨⟨i.toNat, s == ("up" : Str)⟩, by show i.toNat ≤ 2; omega, ?_⟩
      unfold eRu
      rw [show (((⟨i.toNat, s == ("up" : Str)⟩ : Ru).dec : Nat) : Int) = i by show (i.toNat : Int) = i; omega]
      rcases h2 with e | e
      · subst e
        rw [show half ((⟨i.toNat, ("up" : Str) == ("up" : Str)⟩ : Ru).up) = "up" from (show half (("up" : Str) == ("up" : Str)) = "up" by decide +kernel)]
      · subst e
        rw [show half ((⟨i.toNat, ("down" : Str) == ("up" : Str)⟩ : Ru).up) = "down" from (show half (("down" : Str) == ("up" : Str)) = "down" by decide +kernel)]
    · cases h1
  · cases h
def eInts (ns : List Int) : PD := .tuple (ns.map .int)
def toI : PD → Int
  | .int i => i
  | _ => 0
def isVotes : PD → Bool
  | .tuple ds => decide (2 ≤ ds.length) && decide (ds.length ≤ 6) && ds.all (fun d => isI d 0 1000000) &&
      (let s := (ds.map toI).sum; decide (1 ≤ s) && decide (s ≤ 1000000))
  | _ => false
def isVotesI (ns : List Int) : Prop := 2 ≤ ns.length ∧ ns.length ≤ 6 ∧ (∀ n ∈ ns, 0 ≤ n ∧ n ≤ 1000000) ∧ 1 ≤ ns.sum ∧ ns.sum ≤ 1000000
theorem isI_ints {ns : List Int} {lo hi : Int} : (ns.map PyData.int).all (fun d => isI d lo hi) = true ↔ ∀ n ∈ ns, lo ≤ n ∧ n ≤ hi := by
  simp [isI]
theorem isVotes_eInts {ns : List Int} (h : isVotesI ns) : isVotes (eInts ns) = true := by
  obtain ⟨h1, h2, h3, h4, h5⟩ := h
  unfold isVotes eInts
  have e : (ns.map PyData.int).map toI = ns := by
    rw [List.map_map]
    conv => rhs; rw [← List.map_id ns]
    rfl
  simp only [e, List.length_map, Bool.and_eq_true, decide_eq_true_eq]
  exact ⟨⟨⟨h1, h2⟩, isI_ints.mpr h3⟩, h4, h5⟩
theorem allI_elim {lo hi : Int} : ∀ {ds : List PD}, ds.all (fun d => isI d lo hi) = true → ∃ ns : List Int, ds = ns.map .int
  | [], _ => ⟨[], rfl⟩
  | d :: ds, h => by
    rw [List.all_cons, Bool.and_eq_true] at h
    obtain ⟨ns, e⟩ := allI_elim h.2
    cases d with
    | int i => exact ⟨i :: ns, by rw [e]; rfl⟩
    | _ => cases h.1
theorem isVotes_elim {d : PD} (h : isVotes d = true) : ∃ ns, isVotesI ns ∧ d = eInts ns := by
  cases d with
  | tuple ds =>
    unfold isVotes at h
    simp only [Bool.and_eq_true, decide_eq_true_eq] at h
    obtain ⟨⟨⟨h1, h2⟩, h3⟩, h4, h5⟩ := h
    obtain ⟨ns, rfl⟩ := allI_elim h3
    have e : (ns.map PyData.int).map toI = ns := by
      rw [List.map_map]
      conv => rhs; rw [← List.map_id ns]
      rfl
    rw [e] at h4 h5
    rw [List.length_map] at h1 h2
    exact ⟨ns, ⟨h1, h2, isI_ints.mp h3, h4, h5⟩, rfl⟩
  | _ => cases h
def shownM (r : Ru) (v t : Int) : Int := (if r.up then 2 * scl r * v + t else 2 * scl r * v + t - 1) / (2 * t)
def lowM (r : Ru) (t n : Int) : Int := max (if r.up then 0 - (0 - (2 * n - 1) * t) / (2 * scl r) else (2 * n - 1) * t / (2 * scl r) + 1) 0
def highM (r : Ru) (t n : Int) : Int := min (if r.up then ((2 * n + 1) * t - 1) / (2 * scl r) else (2 * n + 1) * t / (2 * scl r)) t
def rangeM (r : Ru) (t n : Int) : Option (Int × Int) := if lowM r t n ≤ highM r t n then some (lowM r t n, highM r t n) else none
def ePr (p : Int × Int) : PD := .tuple [.int p.1, .int p.2]
def eOp : Option (Int × Int) → PD
  | none => .none
  | some p => ePr p
def eOI : Option Int → PD
  | none => .none
  | some p => .int p
/-! ### promises -/
def M_is_integer (ds : List PD) (o : PO) : Prop := ∃ v lo hi, ds = [v, .int lo, .int hi] ∧ o = .ok (.va (.bool (isI v lo hi)))
def M_is_rule (ds : List PD) (o : PO) : Prop := ∃ v, ds = [v] ∧ o = .ok (.va (.bool (isRule v)))
def M_require_rule (ds : List PD) (o : PO) : Prop := ∃ v, ds = [v] ∧ o = if isRule v then .ok (.va .none) else .ex "InvalidRule" none
def M_scale_of (ds : List PD) (o : PO) : Prop := ∃ r, Ru.ok r ∧ ds = [eRu r] ∧ o = .ok (.va (.int (scl r)))
def M_are_votes (ds : List PD) (o : PO) : Prop := ∃ v, ds = [v] ∧ o = .ok (.va (.bool (isVotes v)))
def M_require_votes (ds : List PD) (o : PO) : Prop := ∃ v, ds = [v] ∧ o = if isVotes v then .ok (.va .none) else .ex "InvalidVotes" none
def M_shown (ds : List PD) (o : PO) : Prop := ∃ r v t, Ru.ok r ∧ 0 < t ∧ t ≤ 1000000 ∧ ds = [eRu r, .int v, .int t] ∧ o = .ok (.va (.int (shownM r v t)))
def M_shown_numbers (ds : List PD) (o : PO) : Prop := ∃ d e, ds = [d, e] ∧ ((isRule d = false ∧ o = .ex "InvalidRule" none) ∨ (isRule d = true ∧ isVotes e = false ∧ o = .ex "InvalidVotes" none) ∨
  ∃ r ns, Ru.ok r ∧ isVotesI ns ∧ d = eRu r ∧ e = eInts ns ∧ o = .ok (.ow (.lst (ns.map fun v => .int (shownM r v ns.sum)))))
def M_range_for (ds : List PD) (o : PO) : Prop := ∃ r t n, Ru.ok r ∧ 0 < t ∧ t ≤ 1000000 ∧ ds = [eRu r, .int t, .int n] ∧ o = .ok (.va (eOp (rangeM r t n)))
def fewAt (r : Ru) (own present n : Int) (i : Nat) : Option Int := match rangeM r (present + i) n with
  | some p => if p.1 ≤ own + i ∧ own ≤ p.2 then some i else none
  | none => none
def fewM (r : Ru) (own present n : Int) (k : Nat) : Option Int := (List.range k).findSome? (fewAt r own present n)
/-- fewest_more where all its arguments are good -/
def M_fewest_more (ds : List PD) (o : PO) : Prop := ∃ (r : Ru) (ns : List Int) (i : Nat) (n m own : Int), Ru.ok r ∧ isVotesI ns ∧ ns[i]? = some own ∧ 0 ≤ n ∧ n ≤ scl r ∧ 1 ≤ m ∧ m ≤ 10000 ∧ ds = [eRu r, eInts ns, .int i, .int n, .int m] ∧
  o = .ok (.va (eOI (fewM r own ns.sum n (m + 1 - ns.sum).toNat)))
section
variable {r : Ru} {v t n lo hi : Int} {d : PD} {ns : List Int}
theorem m_is_integer : M_is_integer [d, .int lo, .int hi] (.ok (.va (.bool (isI d lo hi)))) := ⟨_, _, _, rfl, rfl⟩
theorem m_is_rule : M_is_rule [d] (.ok (.va (.bool (isRule d)))) := ⟨_, rfl, rfl⟩
theorem m_require_rule (h : r.ok) : M_require_rule [eRu r] (.ok (.va .none)) := ⟨_, rfl, by rw [isRule_eRu h]; rfl⟩
theorem m_require_ruleX (h : isRule d = false) : M_require_rule [d] (.ex "InvalidRule" none) := ⟨_, rfl, by rw [h]; rfl⟩
theorem m_scale_of (h : r.ok) : M_scale_of [eRu r] (.ok (.va (.int (scl r)))) := ⟨r, h, rfl, rfl⟩
theorem m_are_votes : M_are_votes [d] (.ok (.va (.bool (isVotes d)))) := ⟨_, rfl, rfl⟩
theorem m_require_votes (h : isVotesI ns) : M_require_votes [eInts ns] (.ok (.va .none)) := ⟨_, rfl, by rw [isVotes_eInts h]; rfl⟩
theorem m_require_votesX (h : isVotes d = false) : M_require_votes [d] (.ex "InvalidVotes" none) := ⟨_, rfl, by rw [h]; rfl⟩
theorem m_shown (h : r.ok) (h1 : 0 < t) (h2 : t ≤ 1000000) : M_shown [eRu r, .int v, .int t] (.ok (.va (.int (shownM r v t)))) := ⟨r, v, t, h, h1, h2, rfl, rfl⟩
theorem m_range_for (h : r.ok) (h1 : 0 < t) (h2 : t ≤ 1000000) : M_range_for [eRu r, .int t, .int n] (.ok (.va (eOp (rangeM r t n)))) := ⟨r, t, n, h, h1, h2, rfl, rfl⟩
theorem m_shown_numbers (h : r.ok) (h1 : isVotesI ns) : M_shown_numbers [eRu r, eInts ns] (.ok (.ow (.lst (ns.map fun v => .int (shownM r v ns.sum))))) := ⟨_, _, rfl, .inr (.inr ⟨r, ns, h, h1, rfl, rfl, rfl⟩)⟩
theorem m_fewest_more {i : Nat} {m own : Int} (h : r.ok) (h1 : isVotesI ns) (h2 : ns[i]? = some own) (h3 : 0 ≤ n) (h4 : n ≤ scl r) (h5 : 1 ≤ m) (h6 : m ≤ 10000) :
    M_fewest_more [eRu r, eInts ns, .int i, .int n, .int m] (.ok (.va (eOI (fewM r own ns.sum n (m + 1 - ns.sum).toNat)))) := ⟨r, ns, i, n, m, own, h, h1, h2, h3, h4, h5, h6, rfl, rfl⟩
end
/-- the built-ins are the built-ins -/
structure Bl (mg : Str → Option Value) : Prop where
  isinstance : mg "isinstance" = none
  int : mg "int" = none
  bool : mg "bool" = none
  str : mg "str" = none
  tuple : mg "tuple" = none
  list : mg "list" = none
  set : mg "set" = none
  dict : mg "dict" = none
  len : mg "len" = none
  max : mg "max" = none
  min : mg "min" = none
  sum : mg "sum" = none
  all : mg "all" = none
  any : mg "any" = none
  range : mg "range" = none
  zip : mg "zip" = none
  enumerate : mg "enumerate" = none
  reversed : mg "reversed" = none
  sorted : mg "sorted" = none
end Pj
set_option Elab.async false
set_option linter.all false
set_option maxRecDepth 100000
namespace Pj
open PySem PySem.Spec PyProof.Rows L2
/-! ### the laws' own draws -/
structure Bg where
  c : Int
  s : Int
def Bg.ok (b : Bg) : Prop := 0 ≤ b.c ∧ b.c < 10 ^ 60 ∧ 0 ≤ b.s ∧ b.s < 2147483647
def eBg (b : Bg) : Ct := .lst [.int b.c, .int b.s]
def cellM (ns : List Int) (k : Nat) : Int := match ns[k]? with
  | some n => n % 10 ^ 60
  | none => 0
def seedM (c : Int) (k : Nat) : Int := 1 + (c % 2147483629 * 16807 + 40009 * k * k + 7919 * k + 1009) % 2147483645
def bagM (ns : List Int) (k : Nat) : Bg := if cellM ns k < 10 ^ 18 then ⟨0, seedM (cellM ns k) k⟩ else ⟨cellM ns k, seedM (cellM ns k) k⟩
def lcgM (s : Int) : Int := s * 48271 % 2147483647
def takeM (b : Bg) (n : Int) : Int × Bg := if 0 < b.c then (b.c % n, ⟨b.c / n, b.s⟩) else (lcgM b.s / 13 * (lcgM b.s % 32749 + 17) % 2147483629 / 32 % n, ⟨b.c, lcgM b.s⟩)
theorem cellM_ok (ns : List Int) (k : Nat) : 0 ≤ cellM ns k ∧ cellM ns k < 10 ^ 60 := by
  unfold cellM
  split
  · exact ⟨Int.emod_nonneg _ (by decide), Int.emod_lt_of_pos _ (by decide)⟩
  · decide
theorem bagM_ok (ns : List Int) (k : Nat) : (bagM ns k).ok := by
  obtain ⟨h1, h2⟩ := cellM_ok ns k
  have h3 : 0 ≤ seedM (cellM ns k) k ∧ seedM (cellM ns k) k < 2147483647 := by
    unfold seedM
    have a := Int.emod_nonneg (cellM ns k % 2147483629 * 16807 + 40009 * k * k + 7919 * k + 1009) (show (2147483645 : Int) ≠ 0 by decide)
    have b := Int.emod_lt_of_pos (cellM ns k % 2147483629 * 16807 + 40009 * k * k + 7919 * k + 1009) (show (0 : Int) < 2147483645 by decide)
    omega
  unfold bagM
  split
  · exact ⟨Int.le_refl 0, (by decide : (0 : Int) < 10 ^ 60), h3.1, h3.2⟩
  · exact ⟨h1, h2, h3.1, h3.2⟩
theorem takeM_ok {b : Bg} {n : Int} (h : b.ok) (hn : 0 < n) : (takeM b n).2.ok ∧ 0 ≤ (takeM b n).1 ∧ (takeM b n).1 < n := by
  obtain ⟨h1, h2, h3, h4⟩ := h
  unfold takeM
  have l1 : 0 ≤ lcgM b.s := Int.emod_nonneg _ (by decide)
  have l2 : lcgM b.s < 2147483647 := Int.emod_lt_of_pos _ (by decide)
  split
  · refine ⟨⟨Int.ediv_nonneg h1 (by omega), ?_, h3, h4⟩, Int.emod_nonneg _ (by omega), Int.emod_lt_of_pos _ hn⟩
    exact Int.lt_of_le_of_lt (Int.ediv_le_self n h1) h2
  · exact ⟨⟨h1, h2, l1, l2⟩, Int.emod_nonneg _ (by omega), Int.emod_lt_of_pos _ hn⟩
def M_law_bag (ds : List PD) (o : PO) : Prop := ∃ (ns : List Int) (k : Nat), k ≤ 100 ∧ ds = [.list (ns.map .int), .int k] ∧ o = .ok (.ow (eBg (bagM ns k)))
def M_law_take (c : Ct) (ds : List PD) (c' : Ct) (o : PO) : Prop := ∃ (b : Bg) (n : Int), b.ok ∧ 0 < n ∧ n < 1073741824 ∧ c = eBg b ∧ ds = [.int n] ∧ c' = eBg (takeM b n).2 ∧ o = .ok (.va (.int (takeM b n).1))
def pickM (ds : List PD) (i : Int) : PD := ds.getD i.toNat .none
def M_law_of (c : Ct) (ds : List PD) (c' : Ct) (o : PO) : Prop := ∃ (b : Bg) (x : PD) (es : List PD), b.ok ∧ itemsOf x = some es ∧ 0 < es.length ∧ es.length < 1073741824 ∧ c = eBg b ∧ ds = [x] ∧ c' = eBg (takeM b es.length).2 ∧ o = .ok (.va (pickM es (takeM b es.length).1))
def numberM (r : Ru) (v t : Int) : Int := if 2 * (scl r * v % t) > t ∨ (2 * (scl r * v % t) = t ∧ r.up = true) then scl r * v / t + 1 else scl r * v / t
def M_law_number (ds : List PD) (o : PO) : Prop := ∃ r v t, Ru.ok r ∧ 0 < t ∧ t ≤ 1000000 ∧ ds = [eRu r, .int v, .int t] ∧ o = .ok (.va (.int (numberM r v t)))
section
variable {r : Ru} {v t n : Int} {d x : PD} {ns : List Int} {k : Nat} {b : Bg} {es : List PD}
theorem m_law_bag (h : k ≤ 100) : M_law_bag [.list (ns.map .int), .int k] (.ok (.ow (eBg (bagM ns k)))) := ⟨_, _, h, rfl, rfl⟩
theorem m_law_take (h : b.ok) (h1 : 0 < n) (h2 : n < 1073741824) : M_law_take (eBg b) [.int n] (eBg (takeM b n).2) (.ok (.va (.int (takeM b n).1))) := ⟨b, n, h, h1, h2, rfl, rfl, rfl, rfl⟩
theorem m_law_of (h : b.ok) (h1 : itemsOf x = some es) (h2 : 0 < es.length) (h3 : es.length < 1073741824) : M_law_of (eBg b) [x] (eBg (takeM b es.length).2) (.ok (.va (pickM es (takeM b es.length).1))) := ⟨b, x, es, h, h1, h2, h3, rfl, rfl, rfl, rfl⟩
theorem m_law_scale (h : r.ok) : M_scale_of [eRu r] (.ok (.va (.int (scl r)))) := ⟨r, h, rfl, rfl⟩
theorem m_law_number (h : r.ok) (h1 : 0 < t) (h2 : t ≤ 1000000) : M_law_number [eRu r, .int v, .int t] (.ok (.va (.int (numberM r v t)))) := ⟨r, v, t, h, h1, h2, rfl, rfl⟩
end
/-! ### a drawn poll -/
structure PollS where
  votes : List Int
  rows : List (List Int)
  shots : List (Int × List Int)
  bag : Bg
def eShI (p : Int × List Int) : PD := .tuple [.int p.1, eInts p.2]
def drawsM (n : Nat) (w : Int) (b : Bg) : List Int × Bg := mapS (fun b (_ : Nat) => takeM b w) (List.range n) b
def growOne (g : Int) (b : Bg) (v : Int) : Int × Bg := (v + (takeM b (g + 1)).1 * (takeM (takeM b (g + 1)).2 2).1, (takeM (takeM b (g + 1)).2 2).2)
def growsOf (w : Int) (b : Bg) : Int := if (takeM b 3).1 = 0 then 1 else if (takeM b 3).1 = 1 then 2 else w / 3 + 1
def numsM (r : Ru) (votes : List Int) : List Int := votes.map fun v => numberM r v votes.sum
def pollStep (r : Ru) (w : Int) (s : PollS) (_ : Nat) : PollS :=
  ⟨(mapS (growOne (growsOf w s.bag)) s.votes (takeM s.bag 3).2).1, s.rows ++ [s.votes], s.shots ++ [(s.votes.sum, numsM r s.votes)], (mapS (growOne (growsOf w s.bag)) s.votes (takeM s.bag 3).2).2⟩
/-- ahead of the loop: the votes, the number of turns, the bag -/
def pollVotes (n : Nat) (w : Int) (b : Bg) : List Int :=
  (drawsM n (w + 1) b).1.set (takeM (takeM (drawsM n (w + 1) b).2 w).2 n).1.toNat (1 + (takeM (drawsM n (w + 1) b).2 w).1)
def pollBag (n : Nat) (w : Int) (b : Bg) : Bg := (takeM (takeM (drawsM n (w + 1) b).2 w).2 n).2
def pollTurns (n : Nat) (m w : Int) (b : Bg) : Int := 1 + (takeM (pollBag n w b) m).1
def pollM (r : Ru) (n : Nat) (m w : Int) (b : Bg) : PollS :=
  (List.range (pollTurns n m w b).toNat).foldl (pollStep r w) ⟨pollVotes n w b, [], [], (takeM (pollBag n w b) m).2⟩
def leAll (a b : List Int) : Prop := ∀ (i : Nat) (x y : Int), a[i]? = some x → b[i]? = some y → x ≤ y
structure PollInv (r : Ru) (n : Nat) (w : Int) (i : Nat) (s : PollS) : Prop where
  len : s.votes.length = n
  pos : ∀ v ∈ s.votes, 0 ≤ v
  low : 1 ≤ s.votes.sum
  top : ∀ v ∈ s.votes, v ≤ w + i * (w / 3 + 2)
  bag : s.bag.ok
  cnt : s.rows.length = i
  rows : ∀ v ∈ s.rows, v.length = n ∧ isVotesI v
  shots : s.shots = s.rows.map fun v => (v.sum, numsM r v)
  up : (s.rows ++ [s.votes]).Pairwise leAll
theorem sum_bounds {B : Int} : ∀ {l : List Int}, (∀ v ∈ l, 0 ≤ v ∧ v ≤ B) → 0 ≤ l.sum ∧ l.sum ≤ l.length * B
  | [], _ => by simp
  | v :: l, h => by
    obtain ⟨h1, h2⟩ := sum_bounds (l := l) fun x hx => h x (List.mem_cons_of_mem _ hx)
    have h3 := h v List.mem_cons_self
    rw [List.sum_cons, List.length_cons]
    have e : ((l.length + 1 : Nat) : Int) * B = l.length * B + B := by
      rw [Int.natCast_add, Int.add_mul]; simp
    omega
theorem sum_le_leAll : ∀ {a b : List Int}, a.length = b.length → leAll a b → a.sum ≤ b.sum
  | [], [], _, _ => by simp
  | [], _ :: _, h, _ => by cases h
  | _ :: _, [], h, _ => by cases h
  | x :: a, y :: b, h, l => by
    have h1 := l 0 x y rfl rfl
    have h2 := sum_le_leAll (a := a) (b := b) (by simpa using h) fun i u v h1 h2 => l (i + 1) u v (by simpa using h1) (by simpa using h2)
    rw [List.sum_cons, List.sum_cons]
    omega
theorem mapS_inv {α β S : Type} {f : S → α → β × S} (P : S → Prop) (R : α → β → Prop) : ∀ {l : List α} {s : S}, P s → (∀ a s, a ∈ l → P s → R a (f s a).1 ∧ P (f s a).2) →
    P (mapS f l s).2 ∧ ∀ (i : Nat) a b, l[i]? = some a → (mapS f l s).1[i]? = some b → R a b
  | [], s, h, _ => ⟨h, fun i a b e => by simp at e⟩
  | x :: l, s, h, t => by
    obtain ⟨t1, t2⟩ := t x s List.mem_cons_self h
    obtain ⟨h1, h2⟩ := mapS_inv P R (l := l) t2 fun a s ha hs => t a s (List.mem_cons_of_mem _ ha) hs
    refine ⟨h1, fun i a b e1 e2 => ?_⟩
    cases i with
    | zero => cases e1; cases e2; exact t1
    | succ i => exact h2 i a b (by simpa using e1) (by unfold mapS at e2; simpa using e2)
theorem growsOf_ok {w : Int} {b : Bg} (hw : 0 ≤ w) : 1 ≤ growsOf w b ∧ growsOf w b ≤ w / 3 + 2 := by
  unfold growsOf
  have : 0 ≤ w / 3 := by omega
  split
  · omega
  · split <;> omega
theorem poll_step_ok {r : Ru} {n : Nat} {w : Int} {i : Nat} {s : PollS} (hn : 2 ≤ n ∧ n ≤ 6) (hw : 1 ≤ w ∧ w ≤ 20000) (hi : i < 8) (I : PollInv r n w i s) : PollInv r n w (i + 1) (pollStep r w s i) ∧ isVotesI s.votes := by
  have hg := growsOf_ok (w := w) (b := s.bag) (by omega)
  obtain ⟨b1, _, _⟩ := takeM_ok I.bag (n := 3) (by decide)
  have hB : w + i * (w / 3 + 2) ≤ 100000 := by
    have : (i : Int) * (w / 3 + 2) ≤ 7 * (w / 3 + 2) := Int.mul_le_mul_of_nonneg_right (by omega) (by omega)
    omega
  have iv : isVotesI s.votes := by
    obtain ⟨s1, s2⟩ := sum_bounds (B := 100000) (l := s.votes) fun v hv => ⟨I.pos v hv, by have := I.top v hv; omega⟩
    refine ⟨by rw [I.len]; omega, by rw [I.len]; omega, fun v hv => ⟨I.pos v hv, by have := I.top v hv; omega⟩, I.low, ?_⟩
    rw [I.len] at s2
    omega
  obtain ⟨m1, m2⟩ := mapS_inv (f := growOne (growsOf w s.bag)) Bg.ok (fun v v' => v ≤ v' ∧ v' ≤ v + (w / 3 + 2)) (l := s.votes) b1 fun v b _ hb => by
    obtain ⟨o1, o2, o3⟩ := takeM_ok hb (n := growsOf w s.bag + 1) (by omega)
    obtain ⟨p1, p2, p3⟩ := takeM_ok o1 (n := 2) (by decide)
    refine ⟨?_, p1⟩
    unfold growOne
    have q : (takeM (takeM b (growsOf w s.bag + 1)).2 2).1 = 0 ∨ (takeM (takeM b (growsOf w s.bag + 1)).2 2).1 = 1 := by omega
    rcases q with q | q <;> (rw [q]; dsimp only; omega)
  have ln : (mapS (growOne (growsOf w s.bag)) s.votes (takeM s.bag 3).2).1.length = n := by rw [mapS_length, I.len]
  have at_ : ∀ v' ∈ (mapS (growOne (growsOf w s.bag)) s.votes (takeM s.bag 3).2).1, ∃ v ∈ s.votes, v ≤ v' ∧ v' ≤ v + (w / 3 + 2) := fun v' hv => by
    obtain ⟨j, hj, e⟩ := List.getElem_of_mem hv
    have hj' : j < s.votes.length := by rw [I.len]; rw [ln] at hj; exact hj
    exact ⟨s.votes[j], List.getElem_mem hj', m2 j _ _ (List.getElem?_eq_getElem hj') (by rw [List.getElem?_eq_getElem hj, e])⟩
  have lall : leAll s.votes (mapS (growOne (growsOf w s.bag)) s.votes (takeM s.bag 3).2).1 := fun j x y h1 h2 => (m2 j x y h1 h2).1
  refine ⟨⟨ln, fun v' hv => ?_, ?_, fun v' hv => ?_, m1, by show (s.rows ++ [s.votes]).length = i + 1; rw [List.length_append, I.cnt]; rfl, fun v hv => ?_, ?_, ?_⟩, iv⟩
  · obtain ⟨v, h1, h2, _⟩ := at_ v' hv
    have := I.pos v h1
    omega
  · have := sum_le_leAll (by rw [I.len, ln]) lall
    have := I.low
    show 1 ≤ (mapS (growOne (growsOf w s.bag)) s.votes (takeM s.bag 3).2).1.sum
    omega
  · obtain ⟨v, h1, _, h2⟩ := at_ v' hv
    have := I.top v h1
    have e : ((i + 1 : Nat) : Int) * (w / 3 + 2) = i * (w / 3 + 2) + (w / 3 + 2) := by
      rw [Int.natCast_add, Int.add_mul]; simp
    omega
  · rcases List.mem_append.mp hv with h | h
    · exact I.rows v h
    · rw [List.mem_singleton] at h
      subst h
      exact ⟨I.len, iv⟩
  · show s.shots ++ [(s.votes.sum, numsM r s.votes)] = (s.rows ++ [s.votes]).map _
    rw [List.map_append, I.shots]
    rfl
  · show ((s.rows ++ [s.votes]) ++ [(mapS (growOne (growsOf w s.bag)) s.votes (takeM s.bag 3).2).1]).Pairwise leAll
    rw [List.pairwise_append]
    refine ⟨I.up, List.pairwise_singleton _ _, fun x hx y hy => ?_⟩
    rw [List.mem_singleton] at hy
    subst hy
    rcases List.mem_append.mp hx with h | h
    · intro j u v e1 e2
      have hj : j < s.votes.length := by
        have := (List.getElem?_eq_some_iff.mp e2).1
        rw [ln] at this
        rw [I.len]; exact this
      have h1 := (List.pairwise_append.mp I.up).2.2 x h s.votes (by simp) j u _ e1 (List.getElem?_eq_getElem hj)
      have h2 := lall j _ v (List.getElem?_eq_getElem hj) e2
      omega
    · rw [List.mem_singleton] at h
      subst h
      exact lall
theorem poll_start_ok {r : Ru} {n : Nat} {m w : Int} {b : Bg} (hb : b.ok) (hn : 2 ≤ n ∧ n ≤ 6) (hm : 1 ≤ m ∧ m ≤ 8) (hw : 1 ≤ w ∧ w ≤ 20000) :
    (drawsM n (w + 1) b).2.ok ∧ (takeM (drawsM n (w + 1) b).2 w).2.ok ∧ (pollBag n w b).ok ∧ PollInv r n w 0 ⟨pollVotes n w b, [], [], (takeM (pollBag n w b) m).2⟩ ∧ 1 ≤ pollTurns n m w b ∧ pollTurns n m w b ≤ m := by
  obtain ⟨d1, d2⟩ := mapS_inv (f := fun b (_ : Nat) => takeM b (w + 1)) Bg.ok (fun _ v => 0 ≤ v ∧ v ≤ w) (l := List.range n) hb fun _ b _ hb => by
    obtain ⟨o1, o2, o3⟩ := takeM_ok hb (n := w + 1) (by omega)
    exact ⟨⟨o2, by omega⟩, o1⟩
  have dl : (drawsM n (w + 1) b).1.length = n := by unfold drawsM; rw [mapS_length, List.length_range]
  have dv : ∀ v ∈ (drawsM n (w + 1) b).1, 0 ≤ v ∧ v ≤ w := fun v hv => by
    obtain ⟨j, hj, e⟩ := List.getElem_of_mem hv
    have hj' : j < n := by rw [dl] at hj; exact hj
    exact d2 j j v (List.getElem?_range hj') (by rw [← e]; exact List.getElem?_eq_getElem hj)
  have d1 : (drawsM n (w + 1) b).2.ok := d1
  obtain ⟨o1, o2, o3⟩ := takeM_ok d1 (n := w) (by omega)
  obtain ⟨p1, p2, p3⟩ := takeM_ok o1 (n := n) (by omega)
  obtain ⟨q1, q2, q3⟩ := takeM_ok (b := pollBag n w b) p1 (n := m) (by omega)
  refine ⟨d1, o1, p1, ⟨?_, ?_, ?_, ?_, q1, rfl, fun v hv => by simp at hv, rfl, List.pairwise_singleton _ _⟩, by unfold pollTurns; omega, by unfold pollTurns; omega⟩
  · show (pollVotes n w b).length = n
    unfold pollVotes
    rw [List.length_set, dl]
  · intro v hv
    unfold pollVotes at hv
    rcases List.mem_or_eq_of_mem_set hv with h | h
    · exact (dv v h).1
    · omega
  · show 1 ≤ (pollVotes n w b).sum
    have hmem : 1 + (takeM (drawsM n (w + 1) b).2 w).1 ∈ pollVotes n w b := by
      unfold pollVotes
      have : (takeM (takeM (drawsM n (w + 1) b).2 w).2 n).1.toNat < ((drawsM n (w + 1) b).1).length := by rw [dl]; omega
      exact List.mem_iff_getElem.mpr ⟨_, by rw [List.length_set]; exact this, List.getElem_set_self _⟩
    have key : ∀ (l : List Int) (x : Int), (∀ v ∈ l, 0 ≤ v) → x ∈ l → x ≤ l.sum := fun l => by
      induction l with
      | nil => intro x _ h; cases h
      | cons y l ih =>
        intro x h1 h2
        rw [List.sum_cons]
        have s0 : 0 ≤ l.sum := by
          clear ih h2
          induction l with
          | nil => simp
          | cons z l ih2 =>
            rw [List.sum_cons]
            have := h1 z (by simp)
            have := ih2 fun v hv => h1 v (by
              rcases List.mem_cons.mp hv with e | e
              · simp [e]
              · simp [e])
            omega
        rcases List.mem_cons.mp h2 with e | e
        · omega
        · have := ih x (fun v hv => h1 v (List.mem_cons_of_mem _ hv)) e
          have := h1 y List.mem_cons_self
          omega
    have := key (pollVotes n w b) _ (fun v hv => by
      unfold pollVotes at hv
      rcases List.mem_or_eq_of_mem_set hv with h | h
      · exact (dv v h).1
      · omega) hmem
    omega
  · intro v hv
    show v ≤ w + ((0 : Nat) : Int) * (w / 3 + 2)
    unfold pollVotes at hv
    rcases List.mem_or_eq_of_mem_set hv with h | h
    · have := (dv v h).2; simp; omega
    · simp; omega
theorem foldl_inv {α S : Type} (step : S → α → S) (P : Nat → S → Prop) : ∀ (l : List α) (j : Nat) (s : S), P j s → (∀ i a s, j ≤ i → i < j + l.length → P i s → P (i + 1) (step s a)) → P (j + l.length) (l.foldl step s)
  | [], _, _, h, _ => h
  | a :: l, j, s, h, t => by
    have := foldl_inv step P l (j + 1) (step s a) (t j a s (Nat.le_refl _) (by simp) h) fun i b u h1 h2 => t i b u (by omega) (by simp at h2 ⊢; omega)
    rw [List.length_cons, show j + (l.length + 1) = j + 1 + l.length by omega]
    exact this
theorem pollM_ok {r : Ru} {n : Nat} {m w : Int} {b : Bg} (hb : b.ok) (hn : 2 ≤ n ∧ n ≤ 6) (hm : 1 ≤ m ∧ m ≤ 8) (hw : 1 ≤ w ∧ w ≤ 20000) : PollInv r n w (pollTurns n m w b).toNat (pollM r n m w b) := by
  obtain ⟨_, _, _, I, t1, t2⟩ := poll_start_ok (r := r) hb hn hm hw
  have := foldl_inv (pollStep r w) (PollInv r n w) (List.range (pollTurns n m w b).toNat) 0 _ I fun i a s _ h2 Is => (poll_step_ok hn hw (by rw [List.length_range] at h2; omega) Is).1
  rw [List.length_range, Nat.zero_add] at this
  exact this
def ePoll (s : PollS) : PD := .tuple [.list (s.rows.map eInts), .tuple (s.shots.map eShI)]
def M_law_poll (c : Ct) (ds : List PD) (c' : Ct) (o : PO) : Prop := ∃ (r : Ru) (n : Nat) (m w : Int) (b : Bg), b.ok ∧ r.ok ∧ (2 ≤ n ∧ n ≤ 6) ∧ (1 ≤ m ∧ m ≤ 8) ∧ (1 ≤ w ∧ w ≤ 20000) ∧ c = eBg b ∧ ds = [eRu r, .int n, .int m, .int w] ∧ c' = eBg (pollM r n m w b).bag ∧ o = .ok (.va (ePoll (pollM r n m w b)))
theorem m_law_poll {r : Ru} {n : Nat} {m w : Int} {b : Bg} (hb : b.ok) (hr : r.ok) (hn : 2 ≤ n ∧ n ≤ 6) (hm : 1 ≤ m ∧ m ≤ 8) (hw : 1 ≤ w ∧ w ≤ 20000) : M_law_poll (eBg b) [eRu r, .int n, .int m, .int w] (eBg (pollM r n m w b).bag) (.ok (.va (ePoll (pollM r n m w b)))) := ⟨r, n, m, w, b, hb, hr, hn, hm, hw, rfl, rfl, rfl, rfl⟩
end Pj
set_option Elab.async false
set_option linter.all false
set_option maxRecDepth 100000
namespace Pj
open PySem PySem.Spec PyProof.Rows L2
/-! ### draws, as bare existence -/
theorem take_ex {b : Bg} (n : Int) (h : b.ok) (h1 : 0 < n := by decide) (h2 : n < 1073741824 := by decide) : ∃ (t : Int) (b' : Bg), b'.ok ∧ 0 ≤ t ∧ t < n ∧ M_law_take (eBg b) [.int n] (eBg b') (.ok (.va (.int t))) := by
  obtain ⟨a, c, d⟩ := takeM_ok h h1
  exact ⟨_, _, a, c, d, m_law_take h h1 h2⟩
theorem of_ex {b : Bg} (x : PD) {es : List PD} (h : b.ok) (h1 : itemsOf x = some es := by rfl) (h2 : 0 < es.length := by exact Nat.le_of_ble_eq_true rfl) (h3 : es.length < 1073741824 := by exact Nat.le_of_ble_eq_true rfl) : ∃ (i : Nat) (d : PD) (b' : Bg), b'.ok ∧ es[i]? = some d ∧ M_law_of (eBg b) [x] (eBg b') (.ok (.va d)) := by
  obtain ⟨a, c, d⟩ := takeM_ok h (n := es.length) (by omega)
  have lt : (takeM b es.length).1.toNat < es.length := by omega
  refine ⟨(takeM b es.length).1.toNat, pickM es (takeM b es.length).1, _, a, ?_, m_law_of h h1 h2 h3⟩
  unfold pickM
  rw [List.getD_eq_getElem?_getD, List.getElem?_eq_getElem lt]
  rfl
theorem half_ex {b : Bg} (h : b.ok) : ∃ (u : Bool) (b' : Bg), b'.ok ∧ M_law_of (eBg b) [.list [.str "up", .str "down"]] (eBg b') (.ok (.va (.str (half u)))) := by
  obtain ⟨i, d, b', h1, h2, h3⟩ := of_ex (.list [.str "up", .str "down"]) h
  match i, h2 with
  | 0, h2 => cases h2; exact ⟨true, b', h1, h3⟩
  | 1, h2 => cases h2; exact ⟨false, b', h1, h3⟩
theorem rule_of {t : Int} {u : Bool} {n : Int} (h : 0 ≤ t) (h1 : t < n) (h2 : n ≤ 3) : ∃ r : Ru, r.ok ∧ PyData.tuple [.int t, .str (half u)] = eRu r := by
  refine ⟨⟨t.toNat, u⟩, by show t.toNat ≤ 2; omega, ?_⟩
  unfold eRu
  rw [show ((t.toNat : Nat) : Int) = t by omega]
theorem polls_first (r : Ru) (w : Int) : ∀ (l : List Nat) (s : PollS), s.rows ≠ [] → (l.foldl (pollStep r w) s).rows.head? = s.rows.head?
  | [], s, _ => rfl
  | a :: l, s, h => by
    rw [List.foldl_cons, polls_first r w l _ (by show s.rows ++ [s.votes] ≠ []; simp)]
    show (s.rows ++ [s.votes]).head? = _
    cases e : s.rows with
    | nil => exact absurd e h
    | cons x t => rfl
theorem pollM_first {r : Ru} {n : Nat} {m w : Int} {b : Bg} (h : 1 ≤ pollTurns n m w b) : (pollM r n m w b).rows.head? = some (pollVotes n w b) := by
  unfold pollM
  obtain ⟨k, hk⟩ : ∃ k, (pollTurns n m w b).toNat = k + 1 := ⟨(pollTurns n m w b).toNat - 1, by omega⟩
  rw [hk, List.range_succ_eq_map, List.foldl_cons, polls_first r w _ _ (by show [] ++ [_] ≠ []; simp)]
  rfl
/-- the votes of a history never fall; its shots show its votes -/
structure PollRes (r : Ru) (n : Nat) (m w : Int) (vs : List (List Int)) (ss : List (Int × List Int)) : Prop where
  cnt : 1 ≤ vs.length ∧ vs.length ≤ m
  rows : ∀ v ∈ vs, v.length = n ∧ isVotesI v
  first : ∀ v, vs.head? = some v → v.sum ≤ n * w
  shots : ss = vs.map fun v => (v.sum, numsM r v)
  up : vs.Pairwise leAll
theorem poll_ex {r : Ru} {n : Nat} (m w : Int) {b : Bg} (hb : b.ok) (hr : r.ok) (hn : 2 ≤ n ∧ n ≤ 6) (hm : 1 ≤ m ∧ m ≤ 8 := by decide) (hw : 1 ≤ w ∧ w ≤ 20000 := by decide) :
    ∃ rows shots b', b'.ok ∧ PollRes r n m w rows shots ∧ M_law_poll (eBg b) [eRu r, .int n, .int m, .int w] (eBg b') (.ok (.va (.tuple [.list (rows.map eInts), .tuple (shots.map eShI)]))) := by
  obtain ⟨_, _, _, I0, t1, t2⟩ := poll_start_ok (r := r) hb hn hm hw
  have I := pollM_ok (r := r) hb hn hm hw
  refine ⟨_, _, _, I.bag, ⟨⟨by rw [I.cnt]; omega, by rw [I.cnt]; omega⟩, I.rows, fun v hv => ?_, I.shots, (List.pairwise_append.mp I.up).1⟩, m_law_poll hb hr hn hm hw⟩
  rw [pollM_first t1] at hv
  cases hv
  obtain ⟨_, s2⟩ := sum_bounds (B := w) (l := pollVotes n w b) fun v hv => ⟨I0.pos v hv, by have := I0.top v hv; simpa using this⟩
  have : (pollVotes n w b).length = n := I0.len
  rw [this] at s2
  exact s2
theorem sum_ge_mem : ∀ {l : List Int} {x : Int}, (∀ v ∈ l, 0 ≤ v) → x ∈ l → x ≤ l.sum
  | y :: l, x, h1, h2 => by
    rw [List.sum_cons]
    have s0 := (sum_bounds0 l fun v hv => h1 v (List.mem_cons_of_mem _ hv))
    rcases List.mem_cons.mp h2 with e | e
    · omega
    · have := sum_ge_mem (fun v hv => h1 v (List.mem_cons_of_mem _ hv)) e
      have := h1 y List.mem_cons_self
      omega
where sum_bounds0 : ∀ l : List Int, (∀ v ∈ l, 0 ≤ v) → 0 ≤ l.sum
  | [], _ => by simp
  | z :: l, h => by
    rw [List.sum_cons]
    have := h z List.mem_cons_self
    have := sum_bounds0 l fun v hv => h v (List.mem_cons_of_mem _ hv)
    omega
theorem own_in {ns : List Int} (h : isVotesI ns) {i : Nat} {own : Int} (e : ns[i]? = some own) : 0 ≤ own ∧ own ≤ ns.sum ∧ i < ns.length := by
  have hi := (List.getElem?_eq_some_iff.mp e).1
  have hm : own ∈ ns := List.mem_of_getElem? e
  exact ⟨(h.2.2.1 own hm).1, sum_ge_mem (fun v hv => (h.2.2.1 v hv).1) hm, hi⟩
theorem own_ex {ns : List Int} {t : Int} (h0 : 0 ≤ t) (h1 : t < ns.length) : ∃ (i : Nat) (own : Int), t = i ∧ i < ns.length ∧ ns[i]? = some own := by
  have : t.toNat < ns.length := by omega
  exact ⟨t.toNat, ns[t.toNat], by omega, this, List.getElem?_eq_getElem this⟩
theorem at_ints {ns : List Int} {i : Nat} {own : Int} (e : ns[i]? = some own) : atI (ns.map PyData.int) (i : Int) = some (.int own) := atI_nat (by rw [List.getElem?_map, e]; rfl)
theorem sh_eOI (x : Option Int) : SeqAt.shaped (eOI x) = true := by cases x <;> rfl
theorem eqv_eOI (x y : Option Int) : PyData.eqv (eOI x) (eOI y) = decide (x = y) := by
  cases x with
  | none => cases y <;> rfl
  | some a =>
    cases y with
    | none => rfl
    | some b =>
      show (a == b) = _
      by_cases h : a = b
      · subst h; simp
      · simp [h]
theorem eqv_same (x : Option Int) : PyData.eqv (eOI x) (eOI x) = true := by rw [eqv_eOI]; exact decide_eq_true rfl
theorem at_rows {rows : List (List Int)} {i : Nat} {v : List Int} (e : rows[i]? = some v) : atI (rows.map eInts) (i : Int) = some (eInts v) := atI_nat (by rw [List.getElem?_map, e]; rfl)
theorem row0 {r : Ru} {n : Nat} {m w : Int} {rows : List (List Int)} {shots : List (Int × List Int)} (R : PollRes r n m w rows shots) : ∃ v, atI (rows.map eInts) 0 = some (eInts v) ∧ v ∈ rows ∧ isVotesI v ∧ v.sum ≤ n * w := by
  have h := R.cnt.1
  match rows, R, h with
  | v :: l, R, _ => exact ⟨v, at_rows (i := 0) rfl, List.mem_cons_self, (R.rows v List.mem_cons_self).2, R.first v rfl⟩
def M_law (ds : List PD) (o : PO) : Prop := ∃ ns : List Int, ns.length ≤ 63 ∧ ds = [.list (ns.map .int)] ∧ o = .ok (.va (.bool true))
theorem dpAll_ints {K : PySem.W.Frag} {F : Hp} : ∀ ns : List Int, DpAll K F (ns.map V.int) (ns.map PyData.int)
  | [] => .nil
  | n :: ns => .cons (.int n) (dpAll_ints ns)
theorem law_sp {K : PySem.W.Frag} {mg : Str → Option Value} {H : Hp} {a : Addr} {ns : List Int} (hl : ns.length ≤ 63) (hS : SqL K H a (ns.map V.int)) : spP K mg M_law [.ref a] H (fun v _ => v = .bl true) fun _ _ _ => False := by
  refine ⟨H, _, _, ⟨ns, hl, rfl, rfl⟩, Same.refl _, .cons (.lst hS (dpAll_ints ns)) .nil, fun F' H' v x h => ?_⟩
  cases h
  rfl
end Pj
set_option Elab.async false
set_option linter.all false
set_option maxRecDepth 100000
namespace Pj
open PySem PySem.Spec PyProof.Rows L2
/-! ### the number shown, two ways -/
theorem numberM_iff {r : Ru} {v t n : Int} (ht : 0 < t) : numberM r v t = n ↔ (if r.up then (2 * n - 1) * t ≤ 2 * (scl r * v) ∧ 2 * (scl r * v) < (2 * n + 1) * t else (2 * n - 1) * t < 2 * (scl r * v) ∧ 2 * (scl r * v) ≤ (2 * n + 1) * t) := by
  have e := Int.mul_ediv_add_emod (scl r * v) t
  have m1 := Int.emod_nonneg (scl r * v) (show t ≠ 0 by omega)
  have m2 := Int.emod_lt_of_pos (scl r * v) ht
  unfold numberM
  generalize hq : scl r * v / t = q at *
  generalize hs : scl r * v % t = s at *
  generalize hw : scl r * v = w at *
  have E : w = t * q + s := by omega
  have key : ∀ (k : Int), (2 * k - 1) * t = 2 * (t * k) - t ∧ (2 * k + 1) * t = 2 * (t * k) + t := fun k => by
    constructor
    · rw [Int.sub_mul, Int.mul_assoc, Int.mul_comm k t]; omega
    · rw [Int.add_mul, Int.mul_assoc, Int.mul_comm k t]; omega
  obtain ⟨k1, k2⟩ := key n
  rw [k1, k2]
  -- t*n compared with t*q
  have mono : ∀ a b : Int, a < b → t * a + t ≤ t * b := fun a b h => by
    have := Int.mul_le_mul_of_nonneg_left (show a + 1 ≤ b by omega) (show 0 ≤ t by omega)
    rw [Int.mul_add] at this
    omega
  have cases3 : n < q ∨ n = q ∨ n = q + 1 ∨ q + 1 < n := by omega
  have e1 : t * (q + 1) = t * q + t := by rw [Int.mul_add]; omega
  cases hu : r.up with
  | true =>
    simp only [if_true, and_true]
    rcases cases3 with c | c | c | c
    · have := mono n q c
      constructor
      · intro h
        split at h <;> omega
      · intro h; omega
    · subst c
      constructor
      · intro h
        split at h
        · omega
        · omega
      · intro h
        rw [if_neg (by omega)]
    · subst c
      constructor
      · intro h
        split at h
        · omega
        · omega
      · intro h
        rw [if_pos (by omega)]
    · have := mono (q + 1) n c
      constructor
      · intro h
        split at h <;> omega
      · intro h; omega
  | false =>
    simp only [Bool.false_eq_true, if_false, and_false, or_false]
    rcases cases3 with c | c | c | c
    · have := mono n q c
      constructor
      · intro h
        split at h <;> omega
      · intro h; omega
    · subst c
      constructor
      · intro h
        split at h
        · omega
        · omega
      · intro h
        rw [if_neg (by omega)]
    · subst c
      constructor
      · intro h
        split at h
        · omega
        · omega
      · intro h
        rw [if_pos (by omega)]
    · have := mono (q + 1) n c
      constructor
      · intro h
        split at h <;> omega
      · intro h; omega
theorem div_le_iff {a b q : Int} (hb : 0 < b) : a / b ≤ q ↔ a < b * (q + 1) := by
  have e := Int.mul_ediv_add_emod a b
  have m1 := Int.emod_nonneg a (show b ≠ 0 by omega)
  have m2 := Int.emod_lt_of_pos a hb
  generalize a / b = d at *
  constructor
  · intro h
    have := Int.mul_le_mul_of_nonneg_left h (show 0 ≤ b by omega)
    rw [Int.mul_add]
    omega
  · intro h
    by_cases c : d ≤ q
    · exact c
    · have := Int.mul_le_mul_of_nonneg_left (show q + 1 ≤ d by omega) (show 0 ≤ b by omega)
      omega
theorem le_div_iff {a b q : Int} (hb : 0 < b) : q ≤ a / b ↔ b * q ≤ a := by
  have e := Int.mul_ediv_add_emod a b
  have m1 := Int.emod_nonneg a (show b ≠ 0 by omega)
  have m2 := Int.emod_lt_of_pos a hb
  generalize a / b = d at *
  constructor
  · intro h
    have := Int.mul_le_mul_of_nonneg_left h (show 0 ≤ b by omega)
    omega
  · intro h
    by_cases c : q ≤ d
    · exact c
    · have := Int.mul_le_mul_of_nonneg_left (show d + 1 ≤ q by omega) (show 0 ≤ b by omega)
      rw [Int.mul_add] at this
      omega
/-- the interval of votes holds exactly the votes that show the number -/
theorem range_iff {r : Ru} {v t n : Int} (ht : 0 < t) (h0 : 0 ≤ v) (h1 : v ≤ t) : (lowM r t n ≤ v ∧ v ≤ highM r t n) ↔ numberM r v t = n := by
  have hs := scl_pos r
  rw [numberM_iff ht]
  unfold lowM highM
  have b0 : 0 < 2 * scl r := by omega
  have k : 2 * (scl r * v) = 2 * scl r * v := by rw [Int.mul_assoc]
  have k1 : 2 * scl r * (v + 1) = 2 * scl r * v + 2 * scl r := by rw [Int.mul_add]; omega
  have k2 : 2 * scl r * -v = -(2 * scl r * v) := by rw [Int.mul_neg]
  rw [k]
  cases hu : r.up with
  | true =>
    simp only [if_true]
    have a := @le_div_iff (0 - (2 * n - 1) * t) (2 * scl r) (-v) b0
    have b := @le_div_iff ((2 * n + 1) * t - 1) (2 * scl r) v b0
    rw [k2] at a
    constructor
    · rintro ⟨x, y⟩
      have c1 := a.mp (by omega)
      have c2 := b.mp (by omega)
      omega
    · rintro ⟨x, y⟩
      have c1 := a.mpr (by omega)
      have c2 := b.mpr (by omega)
      omega
  | false =>
    simp only [Bool.false_eq_true, if_false]
    have a := @div_le_iff ((2 * n - 1) * t) (2 * scl r) (v - 1) b0
    have b := @le_div_iff ((2 * n + 1) * t) (2 * scl r) v b0
    rw [show v - 1 + 1 = v by omega] at a
    constructor
    · rintro ⟨x, y⟩
      have c1 := a.mp (by omega)
      have c2 := b.mp (by omega)
      omega
    · rintro ⟨x, y⟩
      have c1 := a.mpr (by omega)
      have c2 := b.mpr (by omega)
      omega
theorem rangeM_some {r : Ru} {t n : Int} {p : Int × Int} (h : rangeM r t n = some p) : p.1 = lowM r t n ∧ p.2 = highM r t n ∧ p.1 ≤ p.2 ∧ 0 ≤ p.1 ∧ p.2 ≤ t := by
  unfold rangeM at h
  split at h
  · cases h
    exact ⟨rfl, rfl, by assumption, by show 0 ≤ lowM r t n; unfold lowM; omega, by show highM r t n ≤ t; unfold highM; omega⟩
  · cases h
theorem rangeM_none {r : Ru} {t n : Int} (h : rangeM r t n = none) : ¬ lowM r t n ≤ highM r t n := by
  unfold rangeM at h
  split at h
  · cases h
  · assumption
/-- shown is the same number -/
theorem shown_eq {r : Ru} {v t : Int} (ht : 0 < t) : shownM r v t = numberM r v t := by
  symm
  rw [numberM_iff ht]
  unfold shownM
  have k : 2 * (scl r * v) = 2 * scl r * v := by rw [Int.mul_assoc]
  rw [k]
  generalize 2 * scl r * v = w
  cases hu : r.up with
  | true =>
    simp only [if_true]
    have e := Int.mul_ediv_add_emod (w + t) (2 * t)
    have m1 := Int.emod_nonneg (w + t) (show 2 * t ≠ 0 by omega)
    have m2 := Int.emod_lt_of_pos (w + t) (show 0 < 2 * t by omega)
    generalize (w + t) / (2 * t) = q at *
    have a : (2 * q - 1) * t = 2 * t * q - t := by rw [Int.sub_mul, Int.mul_right_comm]; omega
    have b : (2 * q + 1) * t = 2 * t * q + t := by rw [Int.add_mul, Int.mul_right_comm]; omega
    rw [a, b]
    omega
  | false =>
    simp only [Bool.false_eq_true, if_false]
    have e := Int.mul_ediv_add_emod (w + t - 1) (2 * t)
    have m1 := Int.emod_nonneg (w + t - 1) (show 2 * t ≠ 0 by omega)
    have m2 := Int.emod_lt_of_pos (w + t - 1) (show 0 < 2 * t by omega)
    generalize (w + t - 1) / (2 * t) = q at *
    have a : (2 * q - 1) * t = 2 * t * q - t := by rw [Int.sub_mul, Int.mul_right_comm]; omega
    have b : (2 * q + 1) * t = 2 * t * q + t := by rw [Int.add_mul, Int.mul_right_comm]; omega
    rw [a, b]
    omega
/-! ### fewest_more by trying all -/
def fewL1 (r : Ru) (own present n : Int) (j : Nat) : Option Int := (List.range (j + 1)).findSome? fun g => if numberM r (own + (g : Nat)) (present + j) = n then some (j : Int) else none
def fewL (r : Ru) (own present n : Int) (k : Nat) : Option Int := (List.range k).findSome? (fewL1 r own present n)
theorem findSome_range {k : Nat} {P : Nat → Prop} [DecidablePred P] {c : Int} : (List.range k).findSome? (fun g => if P g then some c else none) = if ∃ g, g < k ∧ P g then some c else none := by
  by_cases h : ∃ g, g < k ∧ P g
  · rw [if_pos h]
    obtain ⟨g, h1, h2⟩ := h
    cases e : (List.range k).findSome? (fun g => if P g then some c else none) with
    | none =>
      rw [List.findSome?_eq_none_iff] at e
      have := e g (List.mem_range.mpr h1)
      rw [if_pos h2] at this
      cases this
    | some x =>
      obtain ⟨a, ha, hx⟩ := List.exists_of_findSome?_eq_some e
      split at hx
      · exact hx.symm
      · cases hx
  · rw [if_neg h, List.findSome?_eq_none_iff]
    intro g hg
    rw [if_neg]
    intro hp
    exact h ⟨g, List.mem_range.mp hg, hp⟩
theorem fewAt_eq {r : Ru} {own present n : Int} {j : Nat} (hp : 0 < present) (h0 : 0 ≤ own) (h1 : own ≤ present) : fewAt r own present n j = fewL1 r own present n j := by
  unfold fewL1
  rw [findSome_range]
  unfold fewAt
  cases e : rangeM r (present + j) n with
  | none =>
    have no := rangeM_none e
    show none = _
    rw [if_neg]
    rintro ⟨g, hg, hn⟩
    have := (range_iff (r := r) (n := n) (t := present + j) (v := own + (g : Nat)) (by omega) (by omega) (by omega)).mpr hn
    omega
  | some p =>
    obtain ⟨p1, p2, p3, p4, p5⟩ := rangeM_some e
    show (if p.1 ≤ own + j ∧ own ≤ p.2 then some (j : Int) else none) = _
    by_cases c : p.1 ≤ own + j ∧ own ≤ p.2
    · rw [if_pos c, if_pos]
      refine ⟨(max p.1 own - own).toNat, by omega, ?_⟩
      refine (range_iff (by omega) (by omega) (by omega)).mp ?_
      rw [← p1, ← p2]
      omega
    · rw [if_neg c, if_neg]
      rintro ⟨g, hg, hn⟩
      have := (range_iff (r := r) (n := n) (t := present + j) (v := own + (g : Nat)) (by omega) (by omega) (by omega)).mpr hn
      rw [← p1, ← p2] at this
      omega
theorem few_eq {r : Ru} {own present n : Int} {k : Nat} (hp : 0 < present) (h0 : 0 ≤ own) (h1 : own ≤ present) : fewM r own present n k = fewL r own present n k := by
  unfold fewM fewL
  congr 1
  funext j
  exact fewAt_eq hp h0 h1
/-- the present number needs no more votes -/
theorem few_now {r : Ru} {own present : Int} {k : Nat} (hp : 0 < present) (h0 : 0 ≤ own) (h1 : own ≤ present) : fewM r own present (shownM r own present) k = if 0 < k then some 0 else none := by
  rw [few_eq hp h0 h1]
  unfold fewL
  cases k with
  | zero => rfl
  | succ k =>
    rw [List.range_succ_eq_map, List.findSome?_cons]
    have : fewL1 r own present (shownM r own present) 0 = some 0 := by
      unfold fewL1
      rw [findSome_range, if_pos]
      · rfl
      · refine ⟨0, by omega, ?_⟩
        rw [shown_eq hp]
        simp
    rw [this, if_pos (by omega)]
theorem shown_bounds {r : Ru} {v t : Int} (ht : 0 < t) (h0 : 0 ≤ v) (h1 : v ≤ t) : 0 ≤ shownM r v t ∧ shownM r v t ≤ scl r := by
  have hs := scl_pos r
  have e := (numberM_iff (r := r) (v := v) ht).mp (shown_eq (r := r) (v := v) ht).symm
  generalize shownM r v t = q at *
  have l1 : 0 ≤ scl r * v := Int.mul_nonneg (by omega) h0
  have l2 : scl r * v ≤ scl r * t := Int.mul_le_mul_of_nonneg_left h1 (by omega)
  have a : (2 * q - 1) * t = 2 * (q * t) - t := by rw [Int.sub_mul, Int.mul_assoc]; omega
  have b : (2 * q + 1) * t = 2 * (q * t) + t := by rw [Int.add_mul, Int.mul_assoc]; omega
  rw [a, b] at e
  have mono : ∀ a b : Int, a < b → a * t + t ≤ b * t := fun a b h => by
    have := Int.mul_le_mul_of_nonneg_right (show a + 1 ≤ b by omega) (show 0 ≤ t by omega)
    rw [Int.add_mul] at this
    omega
  constructor
  · by_cases c : 0 ≤ q
    · exact c
    · have := mono q 0 (by omega)
      rw [Int.zero_mul] at this
      split at e <;> omega
  · by_cases c : q ≤ scl r
    · exact c
    · have := mono (scl r) q (by omega)
      split at e <;> omega
def M_law_fewest (ds : List PD) (o : PO) : Prop := ∃ (r : Ru) (ns : List Int) (i : Nat) (n m own : Int), r.ok ∧ isVotesI ns ∧ ns[i]? = some own ∧ (0 ≤ m ∧ m ≤ 100000) ∧ ds = [eRu r, eInts ns, .int i, .int n, .int m] ∧ o = .ok (.va (eOI (fewL r own ns.sum n (m + 1 - ns.sum).toNat)))
theorem m_law_fewest {r : Ru} {ns : List Int} {i : Nat} {n m own : Int} (h : r.ok) (h1 : isVotesI ns) (h2 : ns[i]? = some own) (h3 : 0 ≤ m ∧ m ≤ 100000) : M_law_fewest [eRu r, eInts ns, .int i, .int n, .int m] (.ok (.va (eOI (fewL r own ns.sum n (m + 1 - ns.sum).toNat)))) := ⟨r, ns, i, n, m, own, h, h1, h2, h3, rfl, rfl⟩
end Pj
set_option Elab.async false
set_option linter.all false
set_option maxRecDepth 100000
namespace Pj
open PySem PySem.Spec PyProof.Rows L2
def topS (i : Nat) : Stmt := PySem.Challenge.pw_pollshots_k17_whole_fewest_further_votes.main.body.getD i (.Pass ⟨0, 0, 0, 0⟩)
abbrev st_is_integer : Stmt := topS 10
abbrev nm_is_integer : List Str := ["value", "low", "high"]
theorem sc_is_integer : FnScope nm_is_integer ["value", "low", "high"] (defScope st_is_integer) := ⟨rfl, rfl, rfl, by decide +kernel, rfl, by decide +kernel, by decide +kernel⟩
abbrev st_is_rule : Stmt := topS 11
abbrev nm_is_rule : List Str := ["value"]
theorem sc_is_rule : FnScope nm_is_rule ["value"] (defScope st_is_rule) := ⟨rfl, rfl, rfl, by decide +kernel, rfl, by decide +kernel, by decide +kernel⟩
abbrev st_require_rule : Stmt := topS 12
abbrev nm_require_rule : List Str := ["rule"]
theorem sc_require_rule : FnScope nm_require_rule ["rule"] (defScope st_require_rule) := ⟨rfl, rfl, rfl, by decide +kernel, rfl, by decide +kernel, by decide +kernel⟩
abbrev st_scale_of : Stmt := topS 13
abbrev nm_scale_of : List Str := ["rule"]
theorem sc_scale_of : FnScope nm_scale_of ["rule"] (defScope st_scale_of) := ⟨rfl, rfl, rfl, by decide +kernel, rfl, by decide +kernel, by decide +kernel⟩
abbrev st_are_votes : Stmt := topS 14
abbrev nm_are_votes : List Str := ["value", "own"]
theorem sc_are_votes : FnScope nm_are_votes ["value"] (defScope st_are_votes) := ⟨rfl, rfl, rfl, by decide +kernel, rfl, by decide +kernel, by decide +kernel⟩
abbrev st_require_votes : Stmt := topS 15
abbrev nm_require_votes : List Str := ["votes"]
theorem sc_require_votes : FnScope nm_require_votes ["votes"] (defScope st_require_votes) := ⟨rfl, rfl, rfl, by decide +kernel, rfl, by decide +kernel, by decide +kernel⟩
abbrev st_shown : Stmt := topS 16
abbrev nm_shown : List Str := ["rule", "votes", "total", "twice"]
theorem sc_shown : FnScope nm_shown ["rule", "votes", "total"] (defScope st_shown) := ⟨rfl, rfl, rfl, by decide +kernel, rfl, by decide +kernel, by decide +kernel⟩
abbrev st_shown_numbers : Stmt := topS 17
abbrev nm_shown_numbers : List Str := ["rule", "votes", "own"]
theorem sc_shown_numbers : FnScope nm_shown_numbers ["rule", "votes"] (defScope st_shown_numbers) := ⟨rfl, rfl, rfl, by decide +kernel, rfl, by decide +kernel, by decide +kernel⟩
abbrev st_range_for : Stmt := topS 18
abbrev nm_range_for : List Str := ["rule", "total", "number", "scale", "below", "above", "low", "high"]
theorem sc_range_for : FnScope nm_range_for ["rule", "total", "number"] (defScope st_range_for) := ⟨rfl, rfl, rfl, by decide +kernel, rfl, by decide +kernel, by decide +kernel⟩
abbrev st_fewest_more : Stmt := topS 21
abbrev nm_fewest_more : List Str := ["rule", "votes", "option", "number", "most", "own", "present", "total", "pair"]
theorem sc_fewest_more : FnScope nm_fewest_more ["rule", "votes", "option", "number", "most"] (defScope st_fewest_more) := ⟨rfl, rfl, rfl, by decide +kernel, rfl, by decide +kernel, by decide +kernel⟩
abbrev st_law_bag : Stmt := topS 23
abbrev nm_law_bag : List Str := ["script", "k", "cell", "seed"]
theorem sc_law_bag : FnScope nm_law_bag ["script", "k"] (defScope st_law_bag) := ⟨rfl, rfl, rfl, by decide +kernel, rfl, by decide +kernel, by decide +kernel⟩
abbrev st_law_take : Stmt := topS 24
abbrev nm_law_take : List Str := ["bag", "count", "found"]
theorem sc_law_take : FnScope nm_law_take ["bag", "count"] (defScope st_law_take) := ⟨rfl, rfl, rfl, by decide +kernel, rfl, by decide +kernel, by decide +kernel⟩
abbrev st_law_of : Stmt := topS 25
abbrev nm_law_of : List Str := ["bag", "some"]
theorem sc_law_of : FnScope nm_law_of ["bag", "some"] (defScope st_law_of) := ⟨rfl, rfl, rfl, by decide +kernel, rfl, by decide +kernel, by decide +kernel⟩
abbrev st_law_scale : Stmt := topS 26
abbrev nm_law_scale : List Str := ["rule"]
theorem sc_law_scale : FnScope nm_law_scale ["rule"] (defScope st_law_scale) := ⟨rfl, rfl, rfl, by decide +kernel, rfl, by decide +kernel, by decide +kernel⟩
abbrev st_law_number : Stmt := topS 27
abbrev nm_law_number : List Str := ["rule", "votes", "total", "scale", "whole", "rest"]
theorem sc_law_number : FnScope nm_law_number ["rule", "votes", "total"] (defScope st_law_number) := ⟨rfl, rfl, rfl, by decide +kernel, rfl, by decide +kernel, by decide +kernel⟩
abbrev st_law_rule : Stmt := topS 28
abbrev nm_law_rule : List Str := ["bag"]
theorem sc_law_rule : FnScope nm_law_rule ["bag"] (defScope st_law_rule) := ⟨rfl, rfl, rfl, by decide +kernel, rfl, by decide +kernel, by decide +kernel⟩
abbrev st_law_poll : Stmt := topS 29
abbrev nm_law_poll : List Str := ["bag", "rule", "options", "most", "wide", "votes", "history_so", "shots", "turn", "total", "numbers", "grows", "one", "own"]
theorem sc_law_poll : FnScope nm_law_poll ["bag", "rule", "options", "most", "wide"] (defScope st_law_poll) := ⟨rfl, rfl, rfl, by decide +kernel, rfl, by decide +kernel, by decide +kernel⟩
abbrev st_law_cropped : Stmt := topS 30
abbrev nm_law_cropped : List Str := ["bag", "shots", "often", "found", "total", "numbers", "row", "number"]
theorem sc_law_cropped : FnScope nm_law_cropped ["bag", "shots", "often"] (defScope st_law_cropped) := ⟨rfl, rfl, rfl, by decide +kernel, rfl, by decide +kernel, by decide +kernel⟩
abbrev st_law_spoiled : Stmt := topS 31
abbrev nm_law_spoiled : List Str := ["bag", "rule", "shots", "found", "total", "numbers", "row", "number", "more"]
theorem sc_law_spoiled : FnScope nm_law_spoiled ["bag", "rule", "shots"] (defScope st_law_spoiled) := ⟨rfl, rfl, rfl, by decide +kernel, rfl, by decide +kernel, by decide +kernel⟩
abbrev st_law_fewest : Stmt := topS 32
abbrev nm_law_fewest : List Str := ["rule", "votes", "option", "number", "most", "present", "total", "gained"]
theorem sc_law_fewest : FnScope nm_law_fewest ["rule", "votes", "option", "number", "most"] (defScope st_law_fewest) := ⟨rfl, rfl, rfl, by decide +kernel, rfl, by decide +kernel, by decide +kernel⟩
abbrev st_law : Stmt := topS 33
abbrev nm_law : List Str := ["script", "k", "bag", "rule", "votes", "option", "turn", "number", "due", "now"]
theorem sc_law : FnScope nm_law ["script"] (defScope st_law) := ⟨rfl, rfl, rfl, by decide +kernel, rfl, by decide +kernel, by decide +kernel⟩

section
variable {M : Md} {B : Bl M.mg} {f : Addr} {fd : FuncData}
theorem d_is_integer (B : Bl M.mg) (F : Fun M.K "is_integer" "is_integer" st_is_integer f fd) (hm : M.mg "is_integer" = some (.ref f)) (hb : Binds M.K fd ["value", "low", "high"] []) :
    Def M "is_integer" 1 (spP M.K M.mg M_is_integer) := by
  refine def_mk F hm hb sc_is_integer (fun ds o ⟨_, _, _, h, _⟩ => by subst h; rfl) fun fr C ds o h => ?_
  obtain ⟨v, lo, hi, rfl, rfl⟩ := h
  cases v with
  | int i => exact fj_ret (ej_and (ej_isi B.isinstance B.int (ej_var 0) (kit_int _)) fun _ => ej_and (ej_not (ej_isi B.isinstance B.bool (ej_var 0) (kit_bool _))) fun _ => ej_one (ej_lele (ej_var 1) (ej_var 0) fun _ => ej_var 2))
  | bool b => exact fj_ret (ej_and (ej_isi B.isinstance B.int (ej_var 0) (kit_int _)) fun _ => ej_and (k' := false) (ej_not (ej_isi B.isinstance B.bool (ej_var 0) (kit_bool _))) fun z => by cases z)
  | _ => exact fj_ret (ej_and (k' := false) (ej_isi B.isinstance B.int (ej_var 0) (kit_int _)) fun z => by cases z)
theorem d_is_rule (B : Bl M.mg) (D1 : Def M "is_integer" 1 (spP M.K M.mg M_is_integer)) (GH : GC M "HALVES" (.tuple [.str "up", .str "down"])) (F : Fun M.K "is_rule" "is_rule" st_is_rule f fd) (hm : M.mg "is_rule" = some (.ref f)) (hb : Binds M.K fd ["value"] []) :
    Def M "is_rule" 2 (spP M.K M.mg M_is_rule) := by
  refine def_mk F hm hb sc_is_rule (fun ds o ⟨_, h, _⟩ => by subst h; rfl) fun fr C ds o h => ?_
  obtain ⟨v, rfl, rfl⟩ := h
  by_cases hv : ∃ a b, v = .tuple [a, b]
  · obtain ⟨a, b, rfl⟩ := hv
    refine fj_ifR (WJ.tj (wj_or (tj_not (tj_val (ej_isi B.isinstance B.tuple (ej_var 0) (kit_tuple _)))) fun h2 => (wj_or (tj_ne C (ej_len B.len (ej_var 0)) ej_int) fun h1 => (wj_or1 (tj_not (tj_val (ej_call C D1 (aj_cons (ej_at (ej_var 0) ej_int) (aj_cons ej_int (aj_cons ej_int aj_nil))) m_is_integer))))))) (fun h => ?_) (fun h => ?_)
    · refine rj_ret ej_bl (by
        have h' : isI a 0 2 = false := by simpa [isTup, PyData.eqv] using h
        unfold isRule
        split
        · rename_i a' s e
          cases e
          rw [h']; rfl
        · rfl)
    · have h' : isI a 0 2 = true := by simpa [isTup, PyData.eqv] using h
      by_cases hs : ∃ s, b = .str s
      · obtain ⟨s, rfl⟩ := hs
        exact fj_ret (ej_and (ej_isi B.isinstance B.str (ej_at (ej_var 0) ej_int) (kit_str _)) fun _ => ej_one (ej_in (ej_at (ej_var 0) ej_int) (ej_const GH) (hk := rfl))) (by
          show PO.ok (.va (.bool (isI a 0 2 && (s == ("up" : Str) || s == ("down" : Str))))) = _
          rw [h']
          have e1 : (("up" : Str) == s) = (s == ("up" : Str)) := by rw [Bool.eq_iff_iff, beq_iff_eq, beq_iff_eq]; exact eq_comm
          have e2 : (("down" : Str) == s) = (s == ("down" : Str)) := by rw [Bool.eq_iff_iff, beq_iff_eq, beq_iff_eq]; exact eq_comm
          simp [PyData.eqv, isStr, e1, e2])
      · have e : isStr b = false := by cases b <;> first | rfl | exact absurd ⟨_, rfl⟩ hs
        refine fj_ret (ej_and (k' := false) (ej_isi B.isinstance B.str (ej_at (ej_var 0) ej_int) (kit_str _)) fun z => by rw [e] at z; cases z) (by
          rw [e]
          unfold isRule
          split
          · rename_i a' s e'
            cases e'
            exact absurd ⟨_, rfl⟩ hs
          · rfl)
  · have no : isRule v = false := by
      unfold isRule
      split
      · exact absurd ⟨_, _, rfl⟩ hv
      · rfl
    rw [no]
    by_cases ht : ∃ es, v = .tuple es
    · obtain ⟨es, rfl⟩ := ht
      have hl : es.length ≠ 2 := fun e => by
        match es, e with
        | [a, b], _ => exact hv ⟨a, b, rfl⟩
      refine fj_ifT (WJ.tj (wj_or (tj_not (tj_val (ej_isi B.isinstance B.tuple (ej_var 0) (kit_tuple _)))) fun h2 => (wj_or (k' := false) (tj_ne C (ej_len B.len (ej_var 0)) ej_int) fun z => ?_))) ?_ (rj_ret ej_bl)
      · have : (es.length : Int) = 2 := by simpa [PyData.eqv] using z
        omega
      · have : ((es.length : Int) == 2) = false := by rw [beq_eq_false_iff_ne]; omega
        simp [isTup, PyData.eqv, this]
    · have e : isTup v = false := by cases v <;> first | rfl | exact absurd ⟨_, rfl⟩ ht
      exact fj_ifT (WJ.tj (wj_or (k' := false) (tj_not (tj_val (ej_isi B.isinstance B.tuple (ej_var 0) (kit_tuple _)))) fun z => by rw [e] at z; cases z)) (by rw [e]; rfl) (rj_ret ej_bl)
theorem d_require_rule (D1 : Def M "is_rule" 2 (spP M.K M.mg M_is_rule)) (E1 : ExcC M.K M.mg "InvalidRule") (F : Fun M.K "require_rule" "require_rule" st_require_rule f fd) (hm : M.mg "require_rule" = some (.ref f)) (hb : Binds M.K fd ["rule"] []) :
    Def M "require_rule" 3 (spP M.K M.mg M_require_rule) := by
  refine def_mk F hm hb sc_require_rule (fun ds o ⟨_, h, _⟩ => by subst h; rfl) fun fr C ds o h => ?_
  obtain ⟨v, rfl, rfl⟩ := h
  refine fj_ifR (tj_not (tj_val (ej_call C D1 (aj_cons (ej_var 0) aj_nil) m_is_rule))) (fun h => ?_) (fun h => ?_)
  · rw [Bool.not_eq_true'] at h
    rw [h]
    exact sj_raiseE (sj_raise C E1)
  · rw [Bool.not_eq_false'] at h
    rw [h]
    exact fj_end
theorem d_scale_of (F : Fun M.K "scale_of" "scale_of" st_scale_of f fd) (hm : M.mg "scale_of" = some (.ref f)) (hb : Binds M.K fd ["rule"] []) :
    Def M "scale_of" 1 (spP M.K M.mg M_scale_of) := by
  refine def_mk F hm hb sc_scale_of (fun ds o ⟨_, _, h, _⟩ => by subst h; rfl) fun fr C ds o h => ?_
  obtain ⟨r, hr, rfl, rfl⟩ := h
  exact fj_ret (ej_at (ej_tup (aj_cons ej_int (aj_cons ej_int (aj_cons ej_int aj_nil)))) (ej_at (ej_var 0) ej_int) (hj := scl_at hr))
theorem d_are_votes (B : Bl M.mg) (D1 : Def M "is_integer" 1 (spP M.K M.mg M_is_integer)) (GM : GC M "MOST" (.int 1000000)) (F : Fun M.K "are_votes" "are_votes" st_are_votes f fd) (hm : M.mg "are_votes" = some (.ref f)) (hb : Binds M.K fd ["value"] []) :
    Def M "are_votes" 2 (spP M.K M.mg M_are_votes) := by
  refine def_mk F hm hb sc_are_votes (fun ds o ⟨_, h, _⟩ => by subst h; rfl) fun fr C ds o h => ?_
  obtain ⟨v, rfl, rfl⟩ := h
  by_cases ht : ∃ es, v = .tuple es
  · obtain ⟨es, rfl⟩ := ht
    have hv : isVotes (.tuple es) = (decide ((2 : Int) ≤ es.length) && decide ((es.length : Int) ≤ 6) && es.all (fun d => isI d 0 1000000) && (decide (1 ≤ (es.map toI).sum) && decide ((es.map toI).sum ≤ 1000000))) := by
      unfold isVotes
      have e1 : decide (2 ≤ es.length) = decide ((2 : Int) ≤ es.length) := decide_eq_decide.mpr (by omega)
      have e2 : decide (es.length ≤ 6) = decide ((es.length : Int) ≤ 6) := decide_eq_decide.mpr (by omega)
      rw [← e1, ← e2]
    rw [hv]
    refine fj_ifR (WJ.tj (wj_or (tj_not (tj_val (ej_isi B.isinstance B.tuple (ej_var 0) (kit_tuple _)))) fun h3 => (wj_or (tj_not (tj_lele ej_int (ej_len B.len (ej_var 0)) fun _ => ej_int)) fun h2 => (wj_or1 (tj_not (tj_val (ej_allF es (fun d => isI d 0 1000000) C B.all (EJ.frz (ej_lcM (own := [("own", 1)]) (sh := (.one 1)) es id _ C (it_seq (ej_var 0)) (List.map_id es).symm (blkOk_by (own := [("own", 1)]) (N := nm_are_votes) (sc := (defScope st_are_votes)) (by decide +kernel)) (fun _ _ _ _ _ => (pg1 1 C.nd)) ?hz fun b hb => ⟨_, rfl, ?hb⟩))))))))) (fun h => ?_) (fun h => ?_)
    case hb =>
      rintro Y ⟨s, H, A, cl, fp, rfl⟩
      exact ej_call C.blk D1 (aj_cons (ej_var 1) (aj_cons ej_int (aj_cons (ej_const GM) aj_nil))) m_is_integer
    case hz =>
      have : es.length ≤ 6 := by simp at h2; omega
      rw [sizeLine_eq]; omega
    · refine rj_ret ej_bl ?_
      simp only [Bool.or_eq_true, Bool.not_eq_true', isTup] at h
      rcases h with h | h | h
      · cases h
      · rw [h]; rfl
      · rw [h, Bool.and_false]; rfl
    · simp only [Bool.or_eq_false_iff, Bool.not_eq_false'] at h
      obtain ⟨ns, rfl⟩ := allI_elim h.2.2
      refine fj_ret (ej_lele ej_int (ej_sum C B.sum (ej_var 0)) fun _ => (ej_const GM)) ?_
      rw [h.2.1, h.2.2]
      have e : (ns.map PyData.int).map toI = ns := by
        rw [List.map_map]
        conv => rhs; rw [← List.map_id ns]
        rfl
      rw [e]
      rfl
  · have e : isTup v = false := by cases v <;> first | rfl | exact absurd ⟨_, rfl⟩ ht
    have no : isVotes v = false := by cases v <;> first | rfl | exact absurd ⟨_, rfl⟩ ht
    rw [no]
    exact fj_ifT (WJ.tj (wj_or (k' := false) (tj_not (tj_val (ej_isi B.isinstance B.tuple (ej_var 0) (kit_tuple _)))) fun z => by rw [e] at z; cases z)) (by rw [e]; rfl) (rj_ret ej_bl)
theorem d_shown (B : Bl M.mg) (D1 : Def M "scale_of" 1 (spP M.K M.mg M_scale_of)) (F : Fun M.K "shown" "shown" st_shown f fd) (hm : M.mg "shown" = some (.ref f)) (hb : Binds M.K fd ["rule", "votes", "total"] []) :
    Def M "shown" 2 (spP M.K M.mg M_shown) := by
  refine def_mk F hm hb sc_shown (fun ds o ⟨_, _, _, _, _, _, h, _⟩ => by subst h; rfl) fun fr C ds o h => ?_
  obtain ⟨r, v, t, hr, h1, h2, rfl, rfl⟩ := h
  have hs := scl_pos r
  refine fj_cons (sj_set 3 C (ej_add (ej_mul (ej_mul ej_int (ej_call C D1 (aj_cons (ej_var 0) aj_nil) (m_scale_of hr))) (ej_var 1)) (ej_var 2))) ?_
  exact fj_ret (ej_fdiv (ej_ifI (tj_eq C (ej_at (ej_var 0) ej_int) ej_str (by exact half_up r.up) (by exact sh_half _) sh_up) (fun _ => ej_var 3) (fun _ => ej_sub (ej_var 3) ej_int)) (ej_mul ej_int (ej_var 2)))
theorem d_range_for (B : Bl M.mg) (D1 : Def M "scale_of" 1 (spP M.K M.mg M_scale_of)) (F : Fun M.K "range_for" "range_for" st_range_for f fd) (hm : M.mg "range_for" = some (.ref f)) (hb : Binds M.K fd ["rule", "total", "number"] []) :
    Def M "range_for" 2 (spP M.K M.mg M_range_for) := by
  refine def_mk F hm hb sc_range_for (fun ds o ⟨_, _, _, _, _, _, h, _⟩ => by subst h; rfl) fun fr C ds o h => ?_
  obtain ⟨r, t, n, hr, h1, h2, rfl, rfl⟩ := h
  have hs := scl_pos r
  refine fj_cons (sj_set 3 C (ej_call C D1 (aj_cons (ej_var 0) aj_nil) (m_scale_of hr))) ?_
  refine fj_cons (sj_par 4 5 C (aj_cons (ej_mul (ej_sub (ej_mul ej_int (ej_var 2)) ej_int) (ej_var 1)) (aj_cons (ej_mul (ej_add (ej_mul ej_int (ej_var 2)) ej_int) (ej_var 1)) aj_nil))) ?_
  obtain ⟨dec, up⟩ := r
  have fin : ∀ {up : Bool}, PO.ok (.va (if decide (lowM ⟨dec, up⟩ t n ≤ highM ⟨dec, up⟩ t n) = true then PyData.tuple [.int (lowM ⟨dec, up⟩ t n), .int (highM ⟨dec, up⟩ t n)] else .none)) = .ok (.va (eOp (rangeM ⟨dec, up⟩ t n))) := fun {up} => by
    unfold rangeM
    by_cases h : lowM ⟨dec, up⟩ t n ≤ highM ⟨dec, up⟩ t n
    · rw [if_pos h, if_pos (decide_eq_true h)]; rfl
    · rw [if_neg h, if_neg (by simpa using h)]; rfl
  cases up with
  | true =>
    refine fj_cons (sj_ifT (tj_eq C (ej_at (ej_var 0) ej_int) ej_str (by exact half_up true) (by exact sh_half _) sh_up) (bj_one (sj_par 6 7 C (aj_cons (ej_sub ej_int (ej_fdiv (ej_sub ej_int (ej_var 4)) (ej_mul ej_int (ej_var 3)))) (aj_cons (ej_fdiv (ej_sub (ej_var 5) ej_int) (ej_mul ej_int (ej_var 3))) aj_nil))))) ?_
    refine fj_cons (sj_par 6 7 C (aj_cons (ej_max2 C B.max (ej_var 6) ej_int) (aj_cons (ej_min2 C B.min (ej_var 7) (ej_var 1)) aj_nil))) ?_
    exact fj_ret (ej_ifV (tj_le (ej_var 6) (ej_var 7)) (fun h2 => (ej_tup (aj_cons (ej_var 6) (aj_cons (ej_var 7) aj_nil)))) (fun h2 => ej_non)) fin.symm
  | false =>
    refine fj_cons (sj_ifF (tj_eq C (ej_at (ej_var 0) ej_int) ej_str (by exact half_up false) (by exact sh_half _) sh_up) (bj_one (sj_par 6 7 C (aj_cons (ej_add (ej_fdiv (ej_var 4) (ej_mul ej_int (ej_var 3))) ej_int) (aj_cons (ej_fdiv (ej_var 5) (ej_mul ej_int (ej_var 3))) aj_nil))))) ?_
    refine fj_cons (sj_par 6 7 C (aj_cons (ej_max2 C B.max (ej_var 6) ej_int) (aj_cons (ej_min2 C B.min (ej_var 7) (ej_var 1)) aj_nil))) ?_
    exact fj_ret (ej_ifV (tj_le (ej_var 6) (ej_var 7)) (fun h2 => (ej_tup (aj_cons (ej_var 6) (aj_cons (ej_var 7) aj_nil)))) (fun h2 => ej_non)) fin.symm
end

section
variable {M : Md} {B : Bl M.mg} {f : Addr} {fd : FuncData}
theorem d_require_votes (D1 : Def M "are_votes" 2 (spP M.K M.mg M_are_votes)) (E1 : ExcC M.K M.mg "InvalidVotes") (F : Fun M.K "require_votes" "require_votes" st_require_votes f fd) (hm : M.mg "require_votes" = some (.ref f)) (hb : Binds M.K fd ["votes"] []) :
    Def M "require_votes" 3 (spP M.K M.mg M_require_votes) := by
  refine def_mk F hm hb sc_require_votes (fun ds o ⟨_, h, _⟩ => by subst h; rfl) fun fr C ds o h => ?_
  obtain ⟨v, rfl, rfl⟩ := h
  refine fj_ifR (tj_not (tj_val (ej_call C D1 (aj_cons (ej_var 0) aj_nil) m_are_votes))) (fun h => ?_) (fun h => ?_)
  · rw [Bool.not_eq_true'] at h
    rw [h]
    exact sj_raiseE (sj_raise C E1)
  · rw [Bool.not_eq_false'] at h
    rw [h]
    exact fj_end
theorem d_shown_numbers (B : Bl M.mg) (D1 : Def M "require_rule" 3 (spP M.K M.mg M_require_rule)) (D2 : Def M "require_votes" 3 (spP M.K M.mg M_require_votes)) (D3 : Def M "shown" 2 (spP M.K M.mg M_shown))
    (F : Fun M.K "shown_numbers" "shown_numbers" st_shown_numbers f fd) (hm : M.mg "shown_numbers" = some (.ref f)) (hb : Binds M.K fd ["rule", "votes"] []) :
    Def M "shown_numbers" 4 (spP M.K M.mg M_shown_numbers) := by
  refine def_mk F hm hb sc_shown_numbers (fun ds o ⟨_, _, h, _⟩ => by subst h; rfl) fun fr C ds o h => ?_
  obtain ⟨d, e, rfl, ⟨h1, rfl⟩ | ⟨h1, h2, rfl⟩ | ⟨r, ns, hr, hn, rfl, rfl, rfl⟩⟩ := h
  · exact fj_st (sj_exprX (ej_callX C D1 (aj_cons (ej_var 0) aj_nil) (m_require_ruleX h1))) rfl
  · obtain ⟨r, hr, rfl⟩ := isRule_elim h1
    refine fj_cons (sj_expr (ej_call C D1 (aj_cons (ej_var 0) aj_nil) (m_require_rule hr))) ?_
    exact fj_st (sj_exprX (ej_callX C D2 (aj_cons (ej_var 1) aj_nil) (m_require_votesX h2))) rfl
  · refine fj_cons (sj_expr (ej_call C D1 (aj_cons (ej_var 0) aj_nil) (m_require_rule hr))) ?_
    refine fj_cons (sj_expr (ej_call C D2 (aj_cons (ej_var 1) aj_nil) (m_require_votes hn))) ?_
    refine fj_ret (ej_lcM (own := [("own", 2)]) (sh := (.one 2)) ns PyData.int _ C (it_seq (ej_var 1)) rfl (blkOk_by (own := [("own", 2)]) (N := nm_shown_numbers) (sc := (defScope st_shown_numbers)) (by decide +kernel)) (fun _ _ _ _ _ => (pg1 2 C.nd)) ?_ fun b hb => ⟨_, rfl, ?_⟩)
    · rw [sizeLine_eq]
      have := hn.2.1
      omega
    · rintro Y ⟨s, H, A, cl, fp, rfl⟩
      exact ej_call C.blk D3 (aj_cons (ej_var 0) (aj_cons (ej_var 2) (aj_cons (ej_sum (ns := ns) C.blk B.sum (ej_var 1)) aj_nil))) (m_shown hr (by have := hn.2.2.2.1; omega) hn.2.2.2.2)
theorem d_fewest_more (B : Bl M.mg) (D1 : Def M "require_rule" 3 (spP M.K M.mg M_require_rule)) (D2 : Def M "require_votes" 3 (spP M.K M.mg M_require_votes)) (D3 : Def M "is_integer" 1 (spP M.K M.mg M_is_integer)) (D4 : Def M "scale_of" 1 (spP M.K M.mg M_scale_of)) (D5 : Def M "range_for" 2 (spP M.K M.mg M_range_for)) (GT : GC M "TOTAL" (.int 10000))
    (F : Fun M.K "fewest_more" "fewest_more" st_fewest_more f fd) (hm : M.mg "fewest_more" = some (.ref f)) (hb : Binds M.K fd ["rule", "votes", "option", "number", "most"] []) :
    Def M "fewest_more" 4 (spP M.K M.mg M_fewest_more) := by
  refine def_mk F hm hb sc_fewest_more (fun ds o ⟨_, _, _, _, _, _, _, _, _, _, _, _, _, h, _⟩ => by subst h; rfl) fun fr C ds o h => ?_
  obtain ⟨r, ns, i, n, m, own, hr, hn, hi, h1, h2, h3, h4, rfl, rfl⟩ := h
  have hl : i < ns.length := (List.getElem?_eq_some_iff.mp hi).1
  have hs := scl_pos r
  refine fj_cons (sj_expr (ej_call C D1 (aj_cons (ej_var 0) aj_nil) (m_require_rule hr))) ?_
  refine fj_cons (sj_expr (ej_call C D2 (aj_cons (ej_var 1) aj_nil) (m_require_votes hn))) ?_
  refine fj_ifF (tj_not (tj_val (ej_call C D3 (aj_cons (ej_var 2) (aj_cons ej_int (aj_cons (ej_sub (ej_len B.len (ej_var 1)) ej_int) aj_nil))) m_is_integer))) (by simp [isI]; omega) ?_
  refine fj_ifF (tj_not (tj_val (ej_call C D3 (aj_cons (ej_var 3) (aj_cons ej_int (aj_cons (ej_call C D4 (aj_cons (ej_var 0) aj_nil) (m_scale_of hr)) aj_nil))) m_is_integer))) (by simp [isI]; omega) ?_
  refine fj_ifF (tj_not (tj_val (ej_call C D3 (aj_cons (ej_var 4) (aj_cons ej_int (aj_cons (ej_const GT) aj_nil))) m_is_integer))) (by simp [isI]; omega) ?_
  refine fj_cons (sj_par 5 6 C (aj_cons (ej_at (ej_var 1) (ej_var 2) (hj := atI_nat (by rw [List.getElem?_map, hi]; rfl))) (aj_cons (ej_sum (ns := ns) C B.sum (ej_var 1)) aj_nil))) ?_
  have hp := hn.2.2.2
  refine fj_find (List.range (m + 1 - ns.sum).toNat) (fun i => .int (ns.sum + (i : Nat))) (fun j => (fewAt r own ns.sum n j).map fun x => Rs.va (.int x)) C (it_rng2 (aj_cons (ej_var 6) (aj_cons (ej_add (ej_var 4) ej_int) aj_nil)) (by omega) B.range) rfl (pg1 7 C.nd) (fun j hj => ⟨_, rfl, ?_⟩) (fun h => ?_) (fun x h => ?_)
  · rw [List.mem_range] at hj
    have hM : ∀ {x}, rangeM r (ns.sum + (j : Nat)) n = x → M_range_for [eRu r, .int (ns.sum + (j : Nat)), .int n] (.ok (.va (eOp x))) := fun e => e ▸ m_range_for hr (by omega) (by omega)
    cases e : rangeM r (ns.sum + (j : Nat)) n with
    | none =>
      have g : fewAt r own ns.sum n j = none := by unfold fewAt; rw [e]
      refine ⟨fun _ => ?_, fun x h => by rw [g] at h; cases h⟩
      exact bj_cons (sj_set 8 C (ej_call C D5 (aj_cons (ej_var 0) (aj_cons (ej_var 7) (aj_cons (ej_var 3) aj_nil))) (hM e))) <| bj_ifF (WJ.tj (wj_and (k' := false) (tj_notN (ej_var 8)) fun z => by cases z)) rfl bj_done
    | some p =>
      have g : fewAt r own ns.sum n j = if p.1 ≤ own + j ∧ own ≤ p.2 then some (j : Int) else none := by unfold fewAt; rw [e]
      have ea : own + (ns.sum + (j : Nat)) - ns.sum = own + j := by omega
      refine ⟨fun h => ?_, fun x h => ?_⟩
      · refine bj_cons (sj_set 8 C (ej_call C D5 (aj_cons (ej_var 0) (aj_cons (ej_var 7) (aj_cons (ej_var 3) aj_nil))) (hM e))) <| bj_ifF (WJ.tj (wj_and (tj_notN (ej_var 8)) fun _ => (wj_and (tj_le (ej_at (ej_var 8) ej_int) (ej_sub (ej_add (ej_var 5) (ej_var 7)) (ej_var 6))) fun _ => (wj_and1 (tj_ge (ej_at (ej_var 8) ej_int) (ej_var 5)))))) ?_ bj_done
        rw [g] at h
        rw [ea]
        by_cases c : p.1 ≤ own + j ∧ own ≤ p.2
        · rw [if_pos c] at h; cases h
        · show (true && (decide (p.1 ≤ own + j) && decide (own ≤ p.2))) = false
          rw [Bool.true_and, ← Bool.decide_and]
          exact decide_eq_false c
      · rw [g] at h
        by_cases c : p.1 ≤ own + j ∧ own ≤ p.2
        · rw [if_pos c] at h
          cases h
          have ej : ns.sum + (j : Nat) - ns.sum = j := by omega
          refine ⟨_, bj_cons (sj_set 8 C (ej_call C D5 (aj_cons (ej_var 0) (aj_cons (ej_var 7) (aj_cons (ej_var 3) aj_nil))) (hM e))) <| bj_ifT (WJ.tj (wj_and (tj_notN (ej_var 8)) fun _ => (wj_and (tj_le (ej_at (ej_var 8) ej_int) (ej_sub (ej_add (ej_var 5) (ej_var 7)) (ej_var 6))) fun _ => (wj_and1 (tj_ge (ej_at (ej_var 8) ej_int) (ej_var 5)))))) ?_ (bj_ret (ej_sub (ej_var 7) (ej_var 6)) (by rw [ej]))⟩
          rw [ea]
          show (true && (decide (p.1 ≤ own + j) && decide (own ≤ p.2))) = true
          rw [Bool.true_and, ← Bool.decide_and]
          exact decide_eq_true c
        · rw [if_neg c] at h; cases h
  · refine fj_ret ej_non ?_
    have : fewM r own ns.sum n (m + 1 - ns.sum).toNat = none := by
      unfold fewM
      rw [List.findSome?_eq_none_iff] at h ⊢
      intro x hx
      simpa using h x hx
    rw [this]; rfl
  · have : ∃ y, fewM r own ns.sum n (m + 1 - ns.sum).toNat = some y ∧ x = .va (.int y) := by
      unfold fewM
      have e : ∀ l : List Nat, l.findSome? (fun j => (fewAt r own ns.sum n j).map fun x => Rs.va (.int x)) = (l.findSome? (fewAt r own ns.sum n)).map fun x => Rs.va (.int x) := fun l => by
        induction l with
        | nil => rfl
        | cons a l ih =>
          rw [List.findSome?_cons, List.findSome?_cons]
          cases fewAt r own ns.sum n a with
          | none => exact ih
          | some y => rfl
      rw [e] at h
      obtain ⟨y, h1, h2⟩ := Option.map_eq_some_iff.mp h
      exact ⟨y, h1, h2.symm⟩
    obtain ⟨y, h1, rfl⟩ := this
    rw [h1]; rfl
end

section
variable {M : Md} {B : Bl M.mg} {f : Addr} {fd : FuncData}
theorem d_law_bag (B : Bl M.mg) (F : Fun M.K "_law_bag" "_law_bag" st_law_bag f fd) (hm : M.mg "_law_bag" = some (.ref f)) (hb : Binds M.K fd ["script", "k"] []) :
    Def M "_law_bag" 1 (spP M.K M.mg M_law_bag) := by
  refine def_mk F hm hb sc_law_bag (fun ds o ⟨_, _, _, h, _⟩ => by subst h; rfl) fun fr C ds o h => ?_
  obtain ⟨ns, k, hk, rfl, rfl⟩ := h
  obtain ⟨c1, c2⟩ := cellM_ok ns k
  refine fj_cons (sj_set 2 C ej_int) ?_
  refine fj_cons (ρ1 := [.va (.list (ns.map .int)), .va (.int k), .va (.int (cellM ns k)), .un]) (sj_if (tj_lt (ej_var 1) (ej_len B.len (ej_var 0))) (fun h => ?_) (fun h => ?_)) ?_
  · have hl : k < ns.length := by simpa using h
    have e : cellM ns k = ns[k] % 10 ^ 60 := by unfold cellM; rw [List.getElem?_eq_getElem hl]
    rw [e]
    exact bj_cons (sj_set 2 C (ej_mod (ej_at (d := .int ns[k]) (ej_var 0) (ej_var 1) (hj := by exact atI_nat (by rw [List.getElem?_map, List.getElem?_eq_getElem hl]; rfl))) (ej_pow ej_int ej_int (by exact pow_ii (by unfold CPow; decide))) (by exact mod_ii (by decide)))) bj_done
  · have hl : ¬ k < ns.length := by simpa using h
    have e : cellM ns k = 0 := by unfold cellM; rw [List.getElem?_eq_none (by omega)]
    rw [e]
    exact bj_nil
  refine fj_cons (sj_set 3 C (ej_add ej_int (ej_mod (ej_add (ej_add (ej_add (ej_mul (ej_mod (ej_var 2) ej_int) ej_int) (ej_mul (ej_mul ej_int (ej_var 1)) (ej_var 1))) (ej_mul ej_int (ej_var 1))) ej_int) ej_int))) ?_
  refine fj_ifR (tj_lt (ej_var 2) (ej_pow ej_int ej_int (by exact pow_ii (by unfold CPow; decide)))) (fun h => ?_) (fun h => ?_)
  · refine rj_ret (ej_lst (aj_cons ej_int (aj_cons (ej_var 3) aj_nil))) ?_
    unfold bagM
    rw [if_pos (by simpa using h)]
    rfl
  · refine fj_ret (ej_lst (aj_cons (ej_var 2) (aj_cons (ej_var 3) aj_nil))) ?_
    unfold bagM
    rw [if_neg (by simpa using h)]
    rfl
theorem d_law_take (F : Fun M.K "_law_take" "_law_take" st_law_take f fd) (hm : M.mg "_law_take" = some (.ref f)) (hb : Binds M.K fd ["bag", "count"] []) :
    Def M "_law_take" 1 (spB M.K M.mg M_law_take) := by
  refine def_mkB F hm hb sc_law_take (fun c ds c' o ⟨_, _, _, _, _, _, h, _⟩ => by subst h; rfl) fun fr C a c ds c' o h => ?_
  obtain ⟨b, n, hb, h1, h2, rfl, rfl, rfl, rfl⟩ := h
  obtain ⟨c1, c2, c3, c4⟩ := hb
  have l1 : 0 ≤ lcgM b.s := Int.emod_nonneg _ (by decide)
  have l2 : lcgM b.s < 2147483647 := Int.emod_lt_of_pos _ (by decide)
  by_cases hc : 0 < b.c
  · have e : takeM b n = (b.c % n, ⟨b.c / n, b.s⟩) := by unfold takeM; rw [if_pos hc]
    rw [e]
    exact fbj_rt (bj_ifT (tj_gt (ej_ixO 0 ej_int rfl rfl ⟨_, _, rfl, rfl⟩ rfl) ej_int) (by simpa using hc)
      (bj_cons (sj_set 2 C (ej_mod (ej_ixO 0 ej_int rfl rfl ⟨_, _, rfl, rfl⟩ rfl) (ej_var 1))) <|
       bj_cons (sj_setI 0 (ej_fdiv (ej_ixO 0 ej_int rfl rfl ⟨_, _, rfl, rfl⟩ rfl) (ej_var 1)) ej_int) <|
       bj_ret (ej_var 2)))
  · have e : takeM b n = (lcgM b.s / 13 * (lcgM b.s % 32749 + 17) % 2147483629 / 32 % n, ⟨b.c, lcgM b.s⟩) := by unfold takeM; rw [if_neg hc]
    rw [e]
    exact fbj_rt (bj_ifF (tj_gt (ej_ixO 0 ej_int rfl rfl ⟨_, _, rfl, rfl⟩ rfl) ej_int) (by simpa using hc)
      (bj_cons (sj_setI (d := .int (lcgM b.s)) 0 (ej_mod (ej_mul (ej_ixO 0 ej_int rfl rfl ⟨_, _, rfl, rfl⟩ rfl) ej_int) ej_int) ej_int) <|
       bj_ret (ej_mod (ej_fdiv (ej_mod (ej_mul (ej_fdiv (ej_ixO 0 ej_int rfl rfl ⟨_, _, rfl, rfl⟩ rfl) ej_int) (ej_add (ej_mod (ej_ixO 0 ej_int rfl rfl ⟨_, _, rfl, rfl⟩ rfl) ej_int) ej_int)) ej_int) ej_int) (ej_var 1))))
theorem d_law_of (B : Bl M.mg) (D1 : Def M "_law_take" 1 (spB M.K M.mg M_law_take)) (F : Fun M.K "_law_of" "_law_of" st_law_of f fd) (hm : M.mg "_law_of" = some (.ref f)) (hb : Binds M.K fd ["bag", "some"] []) :
    Def M "_law_of" 2 (spB M.K M.mg M_law_of) := by
  refine def_mkB F hm hb sc_law_of (fun c ds c' o ⟨_, _, _, _, _, _, _, _, h, _⟩ => by subst h; rfl) fun fr C a c ds c' o h => ?_
  obtain ⟨b, x, es, hb, hx, h1, h2, rfl, rfl, rfl, rfl⟩ := h
  obtain ⟨_, t1, t2⟩ := takeM_ok hb (n := es.length) (by omega)
  refine fbj_rt (bj_ret (ej_at (ej_var 1) (ej_callB 0 C D1 (aj_cons (ej_len B.len (ej_var 1) (hx := hx)) aj_nil) (m_law_take hb (by omega) (by omega))) (hx := hx) (hj := ?_)))
  unfold pickM atI ixN
  rw [if_pos t1, if_pos t2, List.getD_eq_getElem?_getD]
  have : (takeM b es.length).1.toNat < es.length := by omega
  rw [List.getElem?_eq_getElem this]
  show (some _ : Option Nat).bind _ = _
  rw [Option.bind_some, List.getElem?_eq_getElem this]
  rfl
theorem d_law_scale (F : Fun M.K "_law_scale" "_law_scale" st_law_scale f fd) (hm : M.mg "_law_scale" = some (.ref f)) (hb : Binds M.K fd ["rule"] []) :
    Def M "_law_scale" 1 (spP M.K M.mg M_scale_of) := by
  refine def_mk F hm hb sc_law_scale (fun ds o ⟨_, _, h, _⟩ => by subst h; rfl) fun fr C ds o h => ?_
  obtain ⟨r, hr, rfl, rfl⟩ := h
  exact fj_ret (ej_at (EJ.frz (ej_lst (aj_cons ej_int (aj_cons ej_int (aj_cons ej_int aj_nil))))) (ej_at (ej_var 0) ej_int) (hj := scl_at hr))
theorem d_law_number (D1 : Def M "_law_scale" 1 (spP M.K M.mg M_scale_of)) (F : Fun M.K "_law_number" "_law_number" st_law_number f fd) (hm : M.mg "_law_number" = some (.ref f)) (hb : Binds M.K fd ["rule", "votes", "total"] []) :
    Def M "_law_number" 2 (spP M.K M.mg M_law_number) := by
  refine def_mk F hm hb sc_law_number (fun ds o ⟨_, _, _, _, _, _, h, _⟩ => by subst h; rfl) fun fr C ds o h => ?_
  obtain ⟨r, v, t, hr, h1, h2, rfl, rfl⟩ := h
  have hs := scl_pos r
  refine fj_cons (sj_set 3 C (ej_call C D1 (aj_cons (ej_var 0) aj_nil) (m_scale_of hr))) ?_
  refine fj_cons (sj_par 4 5 C (aj_cons (ej_fdiv (ej_mul (ej_var 3) (ej_var 1)) (ej_var 2)) (aj_cons (ej_mod (ej_mul (ej_var 3) (ej_var 1)) (ej_var 2)) aj_nil))) ?_
  refine fj_ifR (WJ.tj (wj_or (tj_gt (ej_mul ej_int (ej_var 5)) (ej_var 2)) fun _ => (wj_or1 (WJ.tj (wj_and (tj_eq C (ej_mul ej_int (ej_var 5)) (ej_var 2)) fun _ => (wj_and1 (tj_eq C (ej_at (ej_var 0) ej_int) ej_str (by exact half_up r.up) (by exact sh_half _) sh_up))))))) (fun h => ?_) (fun h => ?_)
  · refine rj_ret (ej_add (ej_var 4) ej_int) ?_
    unfold numberM
    rw [if_pos ?_]
    simpa [PyData.eqv] using h
  · refine fj_ret (ej_var 4) ?_
    unfold numberM
    rw [if_neg ?_]
    intro z
    exact absurd (by simpa [PyData.eqv] using z) (Bool.eq_false_iff.mp h)
end

section
variable {M : Md} {B : Bl M.mg} {f : Addr} {fd : FuncData}
theorem d_law_poll (B : Bl M.mg) (D1 : Def M "_law_take" 1 (spB M.K M.mg M_law_take)) (D2 : Def M "_law_of" 2 (spB M.K M.mg M_law_of)) (D3 : Def M "_law_number" 2 (spP M.K M.mg M_law_number))
    (F : Fun M.K "_law_poll" "_law_poll" st_law_poll f fd) (hm : M.mg "_law_poll" = some (.ref f)) (hb : Binds M.K fd ["bag", "rule", "options", "most", "wide"] []) :
    Def M "_law_poll" 3 (spB M.K M.mg M_law_poll) := by
  refine def_mkB F hm hb sc_law_poll (fun c ds c' o ⟨_, _, _, _, _, _, _, _, _, _, _, h, _⟩ => by subst h; rfl) fun fr C a c ds c' o h => ?_
  obtain ⟨r, n, m, w, b, hb, hr, hn, hm', hw, rfl, rfl, rfl, rfl⟩ := h
  obtain ⟨d1, o1, p1, I0, t1, t2⟩ := poll_start_ok (r := r) hb hn hm' hw
  have dl : (drawsM n (w + 1) b).1.length = n := by unfold drawsM; rw [mapS_length, List.length_range]
  obtain ⟨_, k2, k3⟩ := takeM_ok o1 (n := n) (by omega)
  have blk : ∀ (s : PollS), True := fun _ => trivial
  let E : PollS → En := fun s => [.br a (eBg s.bag), .va (eRu r), .va (.int n), .va (.int m), .va (.int w), .ow (.lst (s.votes.map .int)), .ow (.lst (s.rows.map eInts)), .va (.tuple (s.shots.map eShI)), .un, .un, .un, .un, .un, .un]
  have e0 : PO.ok (.va (ePoll (pollM r n m w b))) = .ok (.va (.tuple [.list ((pollM r n m w b).rows.map eInts), .tuple ((pollM r n m w b).shots.map eShI)])) := rfl
  rw [e0]
  refine fbj_rt (ρ' := (E (pollM r n m w b)).set 6 (.va (.list ((pollM r n m w b).rows.map eInts)))) (r := .va (.tuple [.list ((pollM r n m w b).rows.map eInts), .tuple ((pollM r n m w b).shots.map eShI)])) (bj_cons (ρ1 := [.br a (eBg (drawsM n (w + 1) b).2), .va (eRu r), .va (.int n), .va (.int m), .va (.int w), .ow (.lst ((drawsM n (w + 1) b).1.map .int)), .un, .un, .un, .un, .un, .un, .un, .un]) ?votes
    (bj_cons (ρ1 := [.br a (eBg (pollBag n w b)), .va (eRu r), .va (.int n), .va (.int m), .va (.int w), .ow (.lst ((pollVotes n w b).map .int)), .un, .un, .un, .un, .un, .un, .un, .un]) ?set
    (bj_cons (ρ1 := [.br a (eBg (pollBag n w b)), .va (eRu r), .va (.int n), .va (.int m), .va (.int w), .ow (.lst ((pollVotes n w b).map .int)), .ow (.lst []), .va (.tuple []), .un, .un, .un, .un, .un, .un]) (sj_parR 6 7 C (ej_lst aj_nil) (ej_tup aj_nil))
    (bj_cons (ρ1 := E (pollM r n m w b)) ?loop
    (bj_ret (ej_tup (aj_cons (ej_frz 6) (aj_cons (ej_var 7) aj_nil)))))))) rfl rfl
  case votes =>
    refine SJ.to (sj_setC (own := [("one", 12)]) (sh := (.one 12)) 5 C (it_rng1 (aj_cons (ej_var 2) aj_nil) (by omega) B.range) (blkOk_by (own := [("one", 12)]) (N := nm_law_poll) (sc := (defScope st_law_poll)) (by decide +kernel)) (fun _ _ _ _ _ => (pg1 12 C.nd)) (lcJ_fold (fun b => [.br a (eBg b), .va (eRu r), .va (.int n), .va (.int m), .va (.int w), .un, .un, .un, .un, .un, .un, .un, .un, .un]) (fun (i : Nat) => .int (0 + (i : Nat))) PyData.int (fun b (_ : Nat) => takeM b (w + 1)) Bg.ok (List.range n) b hb (fun i b _ hb => ?turn)) (by rw [List.length_map]; show (drawsM n (w + 1) b).1.length < _; rw [dl, sizeLine_eq]; omega) (sw_true rfl rfl rfl (by decide +kernel)))
    case turn =>
      refine ⟨?_, (takeM_ok hb (by omega)).1⟩
      apply lcturn rfl
      · rintro Y ⟨s, H, A, cl, fp, rfl⟩
        exact ej_callB 0 C.blk D1 (aj_cons (ej_add (ej_var 4) ej_int) aj_nil) (m_law_take hb (by omega) (by omega))
      · rfl
      · rfl
  case set =>
    have es : (pollVotes n w b).map PyData.int = ((drawsM n (w + 1) b).1.map PyData.int).set (takeM (takeM (drawsM n (w + 1) b).2 w).2 n).1.toNat (.int (1 + (takeM (drawsM n (w + 1) b).2 w).1)) := by
      unfold pollVotes
      rw [List.map_set]
    rw [es]
    refine SJ.to (sj_setI 5 (ej_add ej_int (ej_callB 0 C D1 (aj_cons (ej_var 4) aj_nil) (m_law_take d1 (by omega) (by omega)))) (ej_callB 0 C D1 (aj_cons (ej_var 2) aj_nil) (m_law_take o1 (by omega) (by omega))) (hk := ?_))
    unfold ixN
    rw [List.length_map, dl, if_pos k2, if_pos k3]
  case loop =>
    refine sj_fold E (pollStep r w) (List.range (pollTurns n m w b).toNat) (fun (i : Nat) => .int (0 + (i : Nat))) (PollInv r n w) ⟨pollVotes n w b, [], [], (takeM (pollBag n w b) m).2⟩ C (it_rng1 (aj_cons (ej_add ej_int (ej_callB 0 C D1 (aj_cons (ej_var 3) aj_nil) (m_law_take p1 (by omega) (by omega)))) aj_nil) (by have := t1; have := t2; unfold pollTurns at *; omega) B.range) rfl (pg1 8 C.nd) I0 fun i j s hi I => ⟨_, rfl, ?_, ?_⟩
    · have hi' : i < (pollTurns n m w b).toNat := by
        have := (List.getElem?_eq_some_iff.mp hi).1
        rwa [List.length_range] at this
      obtain ⟨I', iv⟩ := poll_step_ok hn hw (by omega) I
      obtain ⟨b1, g1, g2⟩ := takeM_ok I.bag (n := 3) (by decide)
      have hg := growsOf_ok (w := w) (b := s.bag) (by omega)
      have pick : pickM [PyData.int 1, .int 2, .int (w / 3 + 1)] (takeM s.bag 3).1 = .int (growsOf w s.bag) := by
        have : (takeM s.bag 3).1 = 0 ∨ (takeM s.bag 3).1 = 1 ∨ (takeM s.bag 3).1 = 2 := by omega
        unfold growsOf
        rcases this with e | e | e <;> rw [e] <;> rfl
      have hof : M_law_of (eBg s.bag) [.list [.int 1, .int 2, .int (w / 3 + 1)]] (eBg (takeM s.bag 3).2) (.ok (.va (.int (growsOf w s.bag)))) := by
        rw [← pick]
        exact m_law_of (es := [.int 1, .int 2, .int (w / 3 + 1)]) I.bag rfl (by simp) (by simp)
      have eE : E (pollStep r w s j) = [.br a (eBg (mapS (growOne (growsOf w s.bag)) s.votes (takeM s.bag 3).2).2), .va (eRu r), .va (.int n), .va (.int m), .va (.int w), .ow (.lst ((mapS (growOne (growsOf w s.bag)) s.votes (takeM s.bag 3).2).1.map .int)), .ow (.lst (s.rows.map eInts ++ [eInts s.votes])), .va (.tuple (s.shots.map eShI ++ [.tuple [.int s.votes.sum, eInts (numsM r s.votes)]])), .un, .un, .un, .un, .un, .un] := by
        show [Sl.br a (eBg (pollStep r w s j).bag), _, _, _, _, Sl.ow (.lst ((pollStep r w s j).votes.map .int)), Sl.ow (.lst ((s.rows ++ [s.votes]).map eInts)), Sl.va (.tuple ((s.shots ++ [(s.votes.sum, numsM r s.votes)]).map eShI)), _, _, _, _, _, _] = _
        rw [List.map_append, List.map_append]
        rfl
      rw [eE]
      refine bj_cons (sj_set 9 C (ej_sum (ns := s.votes) C B.sum (ej_frz 5))) ?_
      refine bj_cons (sj_append 6 (ej_tupOf B.tuple (ej_var 5)) (hz := by rw [List.length_map, I.cnt, sizeLine_eq]; omega)) ?_
      refine bj_cons (sj_set 10 C (ej_tupOf (ds := (numsM r s.votes).map .int) B.tuple (EJ.frz (ej_lcM (own := [("own", 13)]) (sh := (.one 13)) s.votes PyData.int (fun v => .int (numberM r v s.votes.sum)) C (it_seq (ej_var 5)) rfl (blkOk_by (own := [("own", 13)]) (N := nm_law_poll) (sc := (defScope st_law_poll)) (by decide +kernel)) (fun _ _ _ _ _ => (pg1 13 C.nd)) (by have := iv.2.1; rw [sizeLine_eq]; omega) fun v hv => ⟨_, rfl, ?_⟩)) (by show some _ = some _; unfold numsM; rw [List.map_map]; rfl))) ?_
      · rintro Y ⟨s', H, A, cl, fp, rfl⟩
        exact ej_call C.blk D3 (aj_cons (ej_var 1) (aj_cons (ej_var 13) (aj_cons (ej_var 9) aj_nil))) (m_law_number hr (by have := iv.2.2.2.1; omega) iv.2.2.2.2)
      refine bj_cons (sj_set 7 C (ej_add (ej_var 7) (ej_tup (aj_cons (ej_tup (aj_cons (ej_var 9) (aj_cons (ej_var 10) aj_nil))) aj_nil)) (by exact add_tt (by
        have h1 : s.shots.length = i := by rw [I.shots, List.length_map, I.cnt]
        rw [List.length_map, h1, sizeLine_eq]
        simp; omega)))) ?_
      refine bj_cons (sj_set 11 C (ej_callB 0 C D2 (aj_cons (EJ.frz (ej_lst (aj_cons ej_int (aj_cons ej_int (aj_cons (ej_add (ej_fdiv (ej_var 4) ej_int) ej_int) aj_nil))))) aj_nil) hof)) ?_
      refine bj_cons (sj_setC (own := [("own", 13)]) (sh := (.one 13)) 5 C (it_seq (ej_var 5)) (blkOk_by (own := [("own", 13)]) (N := nm_law_poll) (sc := (defScope st_law_poll)) (by decide +kernel)) (fun _ _ _ _ _ => (pg1 13 C.nd)) (lcJ_fold (fun b => [.br a (eBg b), .va (eRu r), .va (.int n), .va (.int m), .va (.int w), .va (.list (s.votes.map .int)), .ow (.lst (s.rows.map eInts ++ [eInts s.votes])), .va (.tuple (s.shots.map eShI ++ [.tuple [.int s.votes.sum, eInts (numsM r s.votes)]])), .va (.int (0 + (j : Nat))), .va (.int s.votes.sum), .va (eInts (numsM r s.votes)), .va (.int (growsOf w s.bag)), .un, .un]) PyData.int PyData.int (growOne (growsOf w s.bag)) Bg.ok s.votes (takeM s.bag 3).2 b1 (fun v b _ hb => ?turn)) (by rw [List.length_map, mapS_length, I.len, sizeLine_eq]; omega) (sw_true rfl rfl rfl (by decide +kernel))) ?_
      case turn =>
        obtain ⟨q1, q2, q3⟩ := takeM_ok hb (n := growsOf w s.bag + 1) (by omega)
        obtain ⟨r1, r2, r3⟩ := takeM_ok q1 (n := 2) (by decide)
        refine ⟨?_, r1⟩
        apply lcturn rfl
        · rintro Y ⟨s', H, A, cl, fp, rfl⟩
          exact ej_add (ej_var 13) (ej_mul (ej_callB 0 C.blk D1 (aj_cons (ej_add (ej_var 11) ej_int) aj_nil) (m_law_take hb (by omega) (by omega))) (ej_callB 0 C.blk D1 (aj_cons ej_int aj_nil) (m_law_take q1 (by decide) (by decide))))
        · rfl
        · rfl
      exact bj_done
    · have hi' : i < (pollTurns n m w b).toNat := by
        have := (List.getElem?_eq_some_iff.mp hi).1
        rwa [List.length_range] at this
      exact (poll_step_ok hn hw (by omega) I).1
end

section
variable {M : Md} {B : Bl M.mg} {f : Addr} {fd : FuncData}
theorem d_law_fewest (B : Bl M.mg) (D1 : Def M "_law_number" 2 (spP M.K M.mg M_law_number)) (F : Fun M.K "_law_fewest" "_law_fewest" st_law_fewest f fd) (hm : M.mg "_law_fewest" = some (.ref f)) (hb : Binds M.K fd ["rule", "votes", "option", "number", "most"] []) :
    Def M "_law_fewest" 3 (spP M.K M.mg M_law_fewest) := by
  refine def_mk F hm hb sc_law_fewest (fun ds o ⟨_, _, _, _, _, _, _, _, _, _, h, _⟩ => by subst h; rfl) fun fr C ds o h => ?_
  obtain ⟨r, ns, i, n, m, own, hr, hn, hi, h1, rfl, rfl⟩ := h
  have hp := hn.2.2.2
  refine fj_cons (sj_set 5 C (ej_sum (ns := ns) C B.sum (ej_var 1))) ?_
  refine fj_search (List.range (m + 1 - ns.sum).toNat) (fun i => .int (ns.sum + (i : Nat))) (fun j => (fewL1 r own ns.sum n j).map fun x => Rs.va (.int x)) C (it_rng2 (aj_cons (ej_var 5) (aj_cons (ej_add (ej_var 4) ej_int) aj_nil)) (by omega) B.range) rfl (pg1 6 C.nd) (fun j hj => ⟨_, rfl, ?_⟩) (fun h => ?_) (fun x h => ?_)
  · rw [List.mem_range] at hj
    show SrJ _ _ _ _ _ ((fewL1 r own ns.sum n j).map fun x => Rs.va (.int x))
    unfold fewL1
    rw [← findSome_mapR]
    refine sr_for (sh := .one 7) (List.range (j + 1)) (fun a => PyData.int (a : Nat)) _ C ((it_rng1 (aj_cons (ej_add (ej_sub (ej_var 6) (ej_var 5)) ej_int) aj_nil) (by omega) B.range).to rfl) (by rw [show (ns.sum + (j : Nat) - ns.sum + 1).toNat = j + 1 by omega, rngD0]) (pg1 7 C.nd) (fun a ha => ⟨_, rfl, ?_⟩)
    refine sr_ifR (tj_eq C (ej_call C D1 (aj_cons (ej_var 0) (aj_cons (ej_add (ej_at (ej_var 1) (ej_var 2) (hj := at_ints hi)) (ej_var 7)) (aj_cons (ej_var 6) aj_nil))) (m_law_number hr (by omega) (by omega))) (ej_var 3)) (fun e => ?_) (fun e => ?_)
    · have e' : numberM r (own + (a : Nat)) (ns.sum + (j : Nat)) = n := by simpa [PyData.eqv] using e
      refine ⟨_, _, bj_ret (ej_sub (ej_var 6) (ej_var 5)), ?_⟩
      rw [if_pos e', show ns.sum + (j : Nat) - ns.sum = (j : Int) by omega]
      rfl
    · have e' : ¬ numberM r (own + (a : Nat)) (ns.sum + (j : Nat)) = n := by simpa [PyData.eqv] using e
      rw [if_neg e']
      exact bj_done
  · rw [findSome_mapR, Option.map_eq_none_iff] at h
    exact fj_ret ej_non (by unfold fewL; rw [h]; rfl)
  · rw [findSome_mapR] at h
    obtain ⟨y, h1, h2⟩ := Option.map_eq_some_iff.mp h
    subst h2
    unfold fewL
    rw [h1]; rfl
end
section
variable {M : Md} {B : Bl M.mg} {f : Addr} {fd : FuncData}
def fewC (n m : Int) : Option Int := fewM ⟨0, true⟩ 1 ([1, 1] : List Int).sum n (m + 1 - ([1, 1] : List Int).sum).toNat
theorem m_few11 {n m : Int} {x : Option Int} (h : 0 ≤ n ∧ n ≤ 100 := by decide) (h2 : 1 ≤ m ∧ m ≤ 10000 := by decide) (e : fewC n m = x := by decide +kernel) : M_fewest_more [.tuple [.int 0, .str "up"], .tuple [.int 1, .int 1], .int 0, .int n, .int m] (.ok (.va (eOI x))) := by
  rw [← e]
  exact @m_fewest_more ⟨0, true⟩ n [1, 1] 0 m 1 (Nat.zero_le 2) (by unfold isVotesI; decide) rfl h.1 h.2 h2.1 h2.2
theorem d_law (B : Bl M.mg) (D1 : Def M "_law_bag" 1 (spP M.K M.mg M_law_bag)) (D2 : Def M "_law_take" 1 (spB M.K M.mg M_law_take)) (D3 : Def M "_law_of" 2 (spB M.K M.mg M_law_of)) (D4 : Def M "_law_poll" 3 (spB M.K M.mg M_law_poll))
    (D5 : Def M "_law_scale" 1 (spP M.K M.mg M_scale_of)) (D6 : Def M "_law_fewest" 3 (spP M.K M.mg M_law_fewest)) (D7 : Def M "fewest_more" 4 (spP M.K M.mg M_fewest_more)) (D8 : Def M "shown_numbers" 4 (spP M.K M.mg M_shown_numbers))
    (F : Fun M.K "law" "law" st_law f fd) :
    FnOk M.P M.w M.K M.mg M.base (L2.CX M.P M.w) 5 f fd ["script"] (spP M.K M.mg M_law) := by
  refine fn_mk F sc_law (fun ds o ⟨_, _, h, _⟩ => by subst h; rfl) fun fr C ds o h => ?_
  obtain ⟨ns, hl, rfl, rfl⟩ := h
  have lz : itemsOf (.list (ns.map PyData.int)) = some (ns.map PyData.int) := rfl
  have nl : (ns.map PyData.int).length = ns.length := List.length_map ..
  refine fj_cons (sj_each (sh := .one 1) (List.range (min (ns.length : Int) 6 + 2).toNat) (fun k => PyData.int (k : Nat)) C (it_rng1 (j := min (ns.length : Int) 6 + 2) (aj_cons (ej_add (ej_min2 C B.min (nl ▸ ej_len B.len (ej_var 0)) ej_int) ej_int) aj_nil) (by omega) B.range) rngD0 (pg1 1 C.nd) (fun k hk => ⟨_, rfl, ?_⟩)) ?_
  · rw [List.mem_range] at hk
    have hk8 : k ≤ 8 := by omega
    obtain ⟨t1, b1, k1, a1, c1, T1⟩ := take_ex 2 (bagM_ok ns k)
    obtain ⟨u, b2, k2, T2⟩ := half_ex k1
    obtain ⟨r, hr, er⟩ := rule_of (u := u) a1 c1 (by decide)
    obtain ⟨t3, b3, k3, a3, c3, T3⟩ := take_ex 2 k2
    obtain ⟨n, hn⟩ : ∃ n : Nat, 2 + t3 = n := ⟨(2 + t3).toNat, by omega⟩
    obtain ⟨rows, shots, b4, k4, R, T4⟩ := poll_ex (r := r) (n := n) 1 6 k3 hr (by omega)
    rw [← hn] at T4
    obtain ⟨votes, hv, hv0, iv, sv⟩ := row0 R
    obtain ⟨t5, b5, k5, a5, c5, T5⟩ := take_ex ((votes.map PyData.int).length : Nat) k4 (by rw [List.length_map]; have := iv.1; omega) (by rw [List.length_map]; have := iv.2.1; omega)
    rw [List.length_map] at c5
    obtain ⟨i, own, rfl, li, hi⟩ := own_ex a5 c5
    obtain ⟨o1, o2, _⟩ := own_in iv hi
    have ip := iv.2.2.2
    have hs := scl_pos r
    refine bj_cons (sj_set 2 C (ej_call C D1 (aj_cons (ej_var 0) (aj_cons (ej_var 1) aj_nil)) (m_law_bag (by omega)))) ?_
    refine bj_cons (sj_set 3 C ((ej_tup (aj_cons (ej_callB 2 C D2 (aj_cons ej_int aj_nil) T1) (aj_cons (ej_callB 2 C D3 (aj_cons (EJ.frz (ej_lst (aj_cons ej_str (aj_cons ej_str aj_nil)))) aj_nil) T2) aj_nil))).to er)) ?_
    refine bj_cons (sj_set 4 C (ej_at (ej_at (ej_callB 2 C D4 (aj_cons (ej_var 3) (aj_cons (ej_add ej_int (ej_callB 2 C D2 (aj_cons ej_int aj_nil) T3)) (aj_cons ej_int (aj_cons ej_int aj_nil)))) T4) ej_int) ej_int (hj := hv))) ?_
    refine bj_cons (sj_set 5 C (ej_callB 2 C D2 (aj_cons (ej_len B.len (ej_var 4)) aj_nil) T5)) ?_
    refine bj_inv (sh := .one 6) (fun _ ρ => ∃ b : Bg, b.ok ∧ ρ = [.va (.list (ns.map .int)), .va (.int k), .ow (eBg b), .va (eRu r), .va (eInts votes), .va (.int i), .un, .un, .un, .un]) (List.range 12) (fun k => PyData.int (k : Nat)) C (it_rng1 (aj_cons ej_int aj_nil) (by decide) B.range) rngD0 (pg1 6 C.nd) ⟨b5, k5, rfl⟩ (fun j _ ρ _ ⟨b, kb, e⟩ => ?_) (fun ρ' ⟨b, kb, e⟩ => ?_)
    · subst e
      obtain ⟨t, b', kb', ta, tc, T⟩ := take_ex (scl r + 1) kb (by omega) (by omega)
      have F1 := m_fewest_more (n := t) (m := 40) hr iv hi ta (by omega) (by decide) (by decide)
      rw [few_eq (by omega) o1 o2] at F1
      refine ⟨_, _, rfl, ?_, ⟨b', kb', rfl⟩⟩
      refine bj_cons (sj_set 7 C (ej_callB 2 C D2 (aj_cons (ej_add (ej_call C D5 (aj_cons (ej_var 3) aj_nil) (m_scale_of hr)) ej_int) aj_nil) T)) ?_
      refine bj_cons (sj_set 8 C (ej_call C D6 (aj_cons (ej_var 3) (aj_cons (ej_var 4) (aj_cons (ej_var 5) (aj_cons (ej_var 7) (aj_cons ej_int aj_nil))))) (m_law_fewest hr iv hi (by decide)))) ?_
      exact bj_ifF (tj_ne C (ej_call C D7 (aj_cons (ej_var 3) (aj_cons (ej_var 4) (aj_cons (ej_var 5) (aj_cons (ej_var 7) (aj_cons ej_int aj_nil))))) F1) (ej_var 8) (hk := by exact eqv_same _) (h1 := by exact sh_eOI _) (h2 := by exact sh_eOI _)) rfl bj_done
    subst e
    obtain ⟨s1, s2⟩ := shown_bounds (r := r) (v := own) (t := votes.sum) (by omega) o1 o2
    have F2 := m_fewest_more (m := 10 ^ 4) hr iv hi s1 s2 (by decide) (by decide)
    have F3 := m_fewest_more (m := 1) hr iv hi s1 s2 (by decide) (by decide)
    rw [few_now (by omega) o1 o2] at F2 F3
    rw [if_pos (by omega)] at F2
    refine bj_cons (sj_set 9 C (ej_at (EJ.frz (ej_call C D8 (aj_cons (ej_var 3) (aj_cons (ej_var 4) aj_nil)) (m_shown_numbers hr iv))) (ej_var 5) (hj := by exact atI_nat (by rw [List.getElem?_map, hi]; rfl)))) ?_
    refine bj_ifF (tj_ne C (ej_call C D7 (aj_cons (ej_var 3) (aj_cons (ej_var 4) (aj_cons (ej_var 5) (aj_cons (ej_var 9) (aj_cons (ej_pow ej_int ej_int) aj_nil))))) F2) ej_int) rfl ?_
    refine bj_ifF (tj_ne C (ej_call C D7 (aj_cons (ej_var 3) (aj_cons (ej_var 4) (aj_cons (ej_var 5) (aj_cons (ej_var 9) (aj_cons ej_int aj_nil))))) F3) (ej_ifV (tj_eq C (ej_sum (ns := votes) C B.sum (ej_var 4)) ej_int) (fun h3 => ej_int) (fun h3 => ej_non)) (k := true) (hk := ?hk) (h1 := by exact sh_eOI _) (h2 := ?h2)) rfl ?_
    case hk =>
      by_cases c : votes.sum = 1
      · rw [c]; rfl
      · rw [if_neg (by omega)]
        have : (votes.sum == 1) = false := by simpa using c
        show PyData.eqv _ (if (votes.sum == 1) = true then _ else _) = true
        rw [this]; rfl
    case h2 => cases PyData.eqv (.int votes.sum) (.int 1) <;> rfl
    obtain ⟨t6, b6, k6, a6, c6, T6⟩ := take_ex 5 kb
    obtain ⟨n', hn'⟩ : ∃ n : Nat, 2 + t6 = n := ⟨(2 + t6).toNat, by omega⟩
    have hr0 : (⟨0, true⟩ : Ru).ok := Nat.zero_le 2
    obtain ⟨rows', shots', b7, k7, R', T7⟩ := poll_ex (r := ⟨0, true⟩) (n := n') 1 60 k6 hr0 (by omega)
    rw [← hn'] at T7
    obtain ⟨votes', hv', hv0', iv', sv'⟩ := row0 R'
    obtain ⟨t8, b8, k8, a8, c8, T8⟩ := take_ex ((votes'.map PyData.int).length : Nat) k7 (by rw [List.length_map]; have := iv'.1; omega) (by rw [List.length_map]; have := iv'.2.1; omega)
    rw [List.length_map] at c8
    obtain ⟨i', own', rfl, li', hi'⟩ := own_ex a8 c8
    obtain ⟨o1', o2', _⟩ := own_in iv' hi'
    have ip' := iv'.2.2.2
    obtain ⟨t9, b9, k9, a9, c9, T9⟩ := take_ex 101 k8
    have F4 := m_fewest_more (n := t9) (m := votes'.sum + 60) hr0 iv' hi' a9 (by show t9 ≤ 100; omega) (by omega) (by omega)
    rw [few_eq (by omega) o1' o2'] at F4
    refine bj_cons (sj_set 4 C (ej_at (ej_at (ej_callB 2 C D4 (aj_cons (ej_tup (aj_cons ej_int (aj_cons ej_str aj_nil))) (aj_cons (ej_add ej_int (ej_callB 2 C D2 (aj_cons ej_int aj_nil) T6)) (aj_cons ej_int (aj_cons ej_int aj_nil)))) T7) ej_int) ej_int (hj := hv'))) ?_
    refine bj_cons (sj_par 5 7 C (aj_cons (ej_callB 2 C D2 (aj_cons (ej_len B.len (ej_var 4)) aj_nil) T8) (aj_cons (ej_callB 2 C D2 (aj_cons ej_int aj_nil) T9) aj_nil))) ?_
    refine bj_cons (sj_set 8 C (ej_call C D6 (aj_cons (ej_tup (aj_cons ej_int (aj_cons ej_str aj_nil))) (aj_cons (ej_var 4) (aj_cons (ej_var 5) (aj_cons (ej_var 7) (aj_cons (ej_add (ej_sum (ns := votes') C B.sum (ej_var 4)) ej_int) aj_nil))))) (m_law_fewest (r := ⟨0, true⟩) hr0 iv' hi' (by omega)))) ?_
    exact bj_ifF (tj_ne C (ej_call C D7 (aj_cons (ej_tup (aj_cons ej_int (aj_cons ej_str aj_nil))) (aj_cons (ej_var 4) (aj_cons (ej_var 5) (aj_cons (ej_var 7) (aj_cons (ej_add (ej_sum (ns := votes') C B.sum (ej_var 4)) ej_int) aj_nil))))) F4) (ej_var 8) (hk := by exact eqv_same _) (h1 := by exact sh_eOI _) (h2 := by exact sh_eOI _)) rfl bj_done
  · refine fj_ifF (WJ.tj (wj_or (k := false) (tj_ne C (ej_call C D7 (aj_cons (ej_tup (aj_cons ej_int (aj_cons ej_str aj_nil))) (aj_cons (ej_tup (aj_cons ej_int (aj_cons ej_int aj_nil))) (aj_cons ej_int (aj_cons ej_int (aj_cons ej_int aj_nil))))) (m_few11 (n := 75) (m := 100) (x := some 2))) ej_int) fun _ => (wj_or1 (tj_notN (ej_call C D7 (aj_cons (ej_tup (aj_cons ej_int (aj_cons ej_str aj_nil))) (aj_cons (ej_tup (aj_cons ej_int (aj_cons ej_int aj_nil))) (aj_cons ej_int (aj_cons ej_int (aj_cons ej_int aj_nil))))) (m_few11 (n := 100) (m := 198) (x := none))))))) rfl ?_
    refine fj_ifF (WJ.tj (wj_or (k := false) (tj_ne C (ej_call C D7 (aj_cons (ej_tup (aj_cons ej_int (aj_cons ej_str aj_nil))) (aj_cons (ej_tup (aj_cons ej_int (aj_cons ej_int aj_nil))) (aj_cons ej_int (aj_cons ej_int (aj_cons ej_int aj_nil))))) (m_few11 (n := 100) (m := 200) (x := some 198))) ej_int) fun _ => (wj_or1 (tj_ne C (ej_call C D7 (aj_cons (ej_tup (aj_cons ej_int (aj_cons ej_str aj_nil))) (aj_cons (ej_tup (aj_cons ej_int (aj_cons ej_int aj_nil))) (aj_cons ej_int (aj_cons ej_int (aj_cons ej_int aj_nil))))) (m_few11 (n := 0) (m := 201) (x := some 199))) ej_int)))) rfl ?_
    exact fj_ret (ej_isN (ej_call C D7 (aj_cons (ej_tup (aj_cons ej_int (aj_cons ej_str aj_nil))) (aj_cons (ej_tup (aj_cons ej_int (aj_cons ej_int aj_nil))) (aj_cons ej_int (aj_cons ej_int (aj_cons ej_int aj_nil))))) (m_few11 (n := 0) (m := 200) (x := none))))
end

section
variable {M : Md}
theorem top_ok (B : Bl M.mg) (E_InvalidRule : ExcC M.K M.mg "InvalidRule") (E_InvalidVotes : ExcC M.K M.mg "InvalidVotes") (G_MOST : GC M "MOST" (.int 1000000)) (G_TOTAL : GC M "TOTAL" (.int 10000)) (G_HALVES : GC M "HALVES" (.tuple [.str "up", .str "down"]))
    {f_is_integer : Addr} {fd_is_integer : FuncData} (F_is_integer : Fun M.K "is_integer" "is_integer" st_is_integer f_is_integer fd_is_integer) (m_is_integer : M.mg "is_integer" = some (.ref f_is_integer)) (b_is_integer : Binds M.K fd_is_integer ["value", "low", "high"] [])
    {f_is_rule : Addr} {fd_is_rule : FuncData} (F_is_rule : Fun M.K "is_rule" "is_rule" st_is_rule f_is_rule fd_is_rule) (m_is_rule : M.mg "is_rule" = some (.ref f_is_rule)) (b_is_rule : Binds M.K fd_is_rule ["value"] [])
    {f_require_rule : Addr} {fd_require_rule : FuncData} (F_require_rule : Fun M.K "require_rule" "require_rule" st_require_rule f_require_rule fd_require_rule) (m_require_rule : M.mg "require_rule" = some (.ref f_require_rule)) (b_require_rule : Binds M.K fd_require_rule ["rule"] [])
    {f_scale_of : Addr} {fd_scale_of : FuncData} (F_scale_of : Fun M.K "scale_of" "scale_of" st_scale_of f_scale_of fd_scale_of) (m_scale_of : M.mg "scale_of" = some (.ref f_scale_of)) (b_scale_of : Binds M.K fd_scale_of ["rule"] [])
    {f_are_votes : Addr} {fd_are_votes : FuncData} (F_are_votes : Fun M.K "are_votes" "are_votes" st_are_votes f_are_votes fd_are_votes) (m_are_votes : M.mg "are_votes" = some (.ref f_are_votes)) (b_are_votes : Binds M.K fd_are_votes ["value"] [])
    {f_require_votes : Addr} {fd_require_votes : FuncData} (F_require_votes : Fun M.K "require_votes" "require_votes" st_require_votes f_require_votes fd_require_votes) (m_require_votes : M.mg "require_votes" = some (.ref f_require_votes)) (b_require_votes : Binds M.K fd_require_votes ["votes"] [])
    {f_shown : Addr} {fd_shown : FuncData} (F_shown : Fun M.K "shown" "shown" st_shown f_shown fd_shown) (m_shown : M.mg "shown" = some (.ref f_shown)) (b_shown : Binds M.K fd_shown ["rule", "votes", "total"] [])
    {f_shown_numbers : Addr} {fd_shown_numbers : FuncData} (F_shown_numbers : Fun M.K "shown_numbers" "shown_numbers" st_shown_numbers f_shown_numbers fd_shown_numbers) (m_shown_numbers : M.mg "shown_numbers" = some (.ref f_shown_numbers)) (b_shown_numbers : Binds M.K fd_shown_numbers ["rule", "votes"] [])
    {f_range_for : Addr} {fd_range_for : FuncData} (F_range_for : Fun M.K "range_for" "range_for" st_range_for f_range_for fd_range_for) (m_range_for : M.mg "range_for" = some (.ref f_range_for)) (b_range_for : Binds M.K fd_range_for ["rule", "total", "number"] [])
    {f_fewest_more : Addr} {fd_fewest_more : FuncData} (F_fewest_more : Fun M.K "fewest_more" "fewest_more" st_fewest_more f_fewest_more fd_fewest_more) (m_fewest_more : M.mg "fewest_more" = some (.ref f_fewest_more)) (b_fewest_more : Binds M.K fd_fewest_more ["rule", "votes", "option", "number", "most"] [])
    {f_law_bag : Addr} {fd_law_bag : FuncData} (F_law_bag : Fun M.K "_law_bag" "_law_bag" st_law_bag f_law_bag fd_law_bag) (m_law_bag : M.mg "_law_bag" = some (.ref f_law_bag)) (b_law_bag : Binds M.K fd_law_bag ["script", "k"] [])
    {f_law_take : Addr} {fd_law_take : FuncData} (F_law_take : Fun M.K "_law_take" "_law_take" st_law_take f_law_take fd_law_take) (m_law_take : M.mg "_law_take" = some (.ref f_law_take)) (b_law_take : Binds M.K fd_law_take ["bag", "count"] [])
    {f_law_of : Addr} {fd_law_of : FuncData} (F_law_of : Fun M.K "_law_of" "_law_of" st_law_of f_law_of fd_law_of) (m_law_of : M.mg "_law_of" = some (.ref f_law_of)) (b_law_of : Binds M.K fd_law_of ["bag", "some"] [])
    {f_law_scale : Addr} {fd_law_scale : FuncData} (F_law_scale : Fun M.K "_law_scale" "_law_scale" st_law_scale f_law_scale fd_law_scale) (m_law_scale : M.mg "_law_scale" = some (.ref f_law_scale)) (b_law_scale : Binds M.K fd_law_scale ["rule"] [])
    {f_law_number : Addr} {fd_law_number : FuncData} (F_law_number : Fun M.K "_law_number" "_law_number" st_law_number f_law_number fd_law_number) (m_law_number : M.mg "_law_number" = some (.ref f_law_number)) (b_law_number : Binds M.K fd_law_number ["rule", "votes", "total"] [])
    {f_law_poll : Addr} {fd_law_poll : FuncData} (F_law_poll : Fun M.K "_law_poll" "_law_poll" st_law_poll f_law_poll fd_law_poll) (m_law_poll : M.mg "_law_poll" = some (.ref f_law_poll)) (b_law_poll : Binds M.K fd_law_poll ["bag", "rule", "options", "most", "wide"] [])
    {f_law_fewest : Addr} {fd_law_fewest : FuncData} (F_law_fewest : Fun M.K "_law_fewest" "_law_fewest" st_law_fewest f_law_fewest fd_law_fewest) (m_law_fewest : M.mg "_law_fewest" = some (.ref f_law_fewest)) (b_law_fewest : Binds M.K fd_law_fewest ["rule", "votes", "option", "number", "most"] [])
    {f : Addr} {fd : FuncData} (F : Fun M.K "law" "law" st_law f fd) : FnOk M.P M.w M.K M.mg M.base (L2.CX M.P M.w) 5 f fd ["script"] (spP M.K M.mg M_law) := by
  have D_is_integer := by have := @d_is_integer M; apply this <;> assumption
  have D_is_rule := by have := @d_is_rule M; apply this <;> assumption
  have D_require_rule := by have := @d_require_rule M; apply this <;> assumption
  have D_scale_of := by have := @d_scale_of M; apply this <;> assumption
  have D_are_votes := by have := @d_are_votes M; apply this <;> assumption
  have D_require_votes := by have := @d_require_votes M; apply this <;> assumption
  have D_shown := by have := @d_shown M; apply this <;> assumption
  have D_shown_numbers := by have := @d_shown_numbers M; apply this <;> assumption
  have D_range_for := by have := @d_range_for M; apply this <;> assumption
  have D_fewest_more := by have := @d_fewest_more M; apply this <;> assumption
  have D_law_bag := by have := @d_law_bag M; apply this <;> assumption
  have D_law_take := by have := @d_law_take M; apply this <;> assumption
  have D_law_of := by have := @d_law_of M; apply this <;> assumption
  have D_law_scale := by have := @d_law_scale M; apply this <;> assumption
  have D_law_number := by have := @d_law_number M; apply this <;> assumption
  have D_law_poll := by have := @d_law_poll M; apply this <;> assumption
  have D_law_fewest := by have := @d_law_fewest M; apply this <;> assumption
  apply d_law <;> assumption
end
theorem all_mk {l : PySem.W.OpenLaw} {w : World} {K : PySem.W.Frag} {h : Heap} {mg : Str → Option Value} {fa : Addr} {lv : List (Str × PySem.W.WData)} (X : K.In h) (G : h.Ns mainGlobals mg) (hfa : mg "law" = some (.ref fa)) (loose : PySem.W.LooseAre lv mg h)
    {f0 : Addr} {od0 an0 : Option Addr} {sl0 : Array (Option Value)} {oc0 kV0 dc0 pm0 cd0 ct0 : Value}
    (a0 : PySem.W.nsIn K mainGlobals "is_integer" = some (some (.ref f0))) (l0 : K.lookup f0 = some ⟨oc0, od0, .func (PySem.W.fnOf "is_integer" "is_integer" (defArgs st_is_integer) (defBody st_is_integer) (defScope st_is_integer) .none kV0 dc0 pm0 an0 cd0 ct0), sl0⟩) (c0 : PySem.W.codeIn K cd0 "is_integer" = true) (k0 : PySem.W.keepIn K (.ref f0) = true)
    {f1 : Addr} {od1 an1 : Option Addr} {sl1 : Array (Option Value)} {oc1 kV1 dc1 pm1 cd1 ct1 : Value}
    (a1 : PySem.W.nsIn K mainGlobals "is_rule" = some (some (.ref f1))) (l1 : K.lookup f1 = some ⟨oc1, od1, .func (PySem.W.fnOf "is_rule" "is_rule" (defArgs st_is_rule) (defBody st_is_rule) (defScope st_is_rule) .none kV1 dc1 pm1 an1 cd1 ct1), sl1⟩) (c1 : PySem.W.codeIn K cd1 "is_rule" = true) (k1 : PySem.W.keepIn K (.ref f1) = true)
    {f2 : Addr} {od2 an2 : Option Addr} {sl2 : Array (Option Value)} {oc2 kV2 dc2 pm2 cd2 ct2 : Value}
    (a2 : PySem.W.nsIn K mainGlobals "require_rule" = some (some (.ref f2))) (l2 : K.lookup f2 = some ⟨oc2, od2, .func (PySem.W.fnOf "require_rule" "require_rule" (defArgs st_require_rule) (defBody st_require_rule) (defScope st_require_rule) .none kV2 dc2 pm2 an2 cd2 ct2), sl2⟩) (c2 : PySem.W.codeIn K cd2 "require_rule" = true) (k2 : PySem.W.keepIn K (.ref f2) = true)
    {f3 : Addr} {od3 an3 : Option Addr} {sl3 : Array (Option Value)} {oc3 kV3 dc3 pm3 cd3 ct3 : Value}
    (a3 : PySem.W.nsIn K mainGlobals "scale_of" = some (some (.ref f3))) (l3 : K.lookup f3 = some ⟨oc3, od3, .func (PySem.W.fnOf "scale_of" "scale_of" (defArgs st_scale_of) (defBody st_scale_of) (defScope st_scale_of) .none kV3 dc3 pm3 an3 cd3 ct3), sl3⟩) (c3 : PySem.W.codeIn K cd3 "scale_of" = true) (k3 : PySem.W.keepIn K (.ref f3) = true)
    {f4 : Addr} {od4 an4 : Option Addr} {sl4 : Array (Option Value)} {oc4 kV4 dc4 pm4 cd4 ct4 : Value}
    (a4 : PySem.W.nsIn K mainGlobals "are_votes" = some (some (.ref f4))) (l4 : K.lookup f4 = some ⟨oc4, od4, .func (PySem.W.fnOf "are_votes" "are_votes" (defArgs st_are_votes) (defBody st_are_votes) (defScope st_are_votes) .none kV4 dc4 pm4 an4 cd4 ct4), sl4⟩) (c4 : PySem.W.codeIn K cd4 "are_votes" = true) (k4 : PySem.W.keepIn K (.ref f4) = true)
    {f5 : Addr} {od5 an5 : Option Addr} {sl5 : Array (Option Value)} {oc5 kV5 dc5 pm5 cd5 ct5 : Value}
    (a5 : PySem.W.nsIn K mainGlobals "require_votes" = some (some (.ref f5))) (l5 : K.lookup f5 = some ⟨oc5, od5, .func (PySem.W.fnOf "require_votes" "require_votes" (defArgs st_require_votes) (defBody st_require_votes) (defScope st_require_votes) .none kV5 dc5 pm5 an5 cd5 ct5), sl5⟩) (c5 : PySem.W.codeIn K cd5 "require_votes" = true) (k5 : PySem.W.keepIn K (.ref f5) = true)
    {f6 : Addr} {od6 an6 : Option Addr} {sl6 : Array (Option Value)} {oc6 kV6 dc6 pm6 cd6 ct6 : Value}
    (a6 : PySem.W.nsIn K mainGlobals "shown" = some (some (.ref f6))) (l6 : K.lookup f6 = some ⟨oc6, od6, .func (PySem.W.fnOf "shown" "shown" (defArgs st_shown) (defBody st_shown) (defScope st_shown) .none kV6 dc6 pm6 an6 cd6 ct6), sl6⟩) (c6 : PySem.W.codeIn K cd6 "shown" = true) (k6 : PySem.W.keepIn K (.ref f6) = true)
    {f7 : Addr} {od7 an7 : Option Addr} {sl7 : Array (Option Value)} {oc7 kV7 dc7 pm7 cd7 ct7 : Value}
    (a7 : PySem.W.nsIn K mainGlobals "shown_numbers" = some (some (.ref f7))) (l7 : K.lookup f7 = some ⟨oc7, od7, .func (PySem.W.fnOf "shown_numbers" "shown_numbers" (defArgs st_shown_numbers) (defBody st_shown_numbers) (defScope st_shown_numbers) .none kV7 dc7 pm7 an7 cd7 ct7), sl7⟩) (c7 : PySem.W.codeIn K cd7 "shown_numbers" = true) (k7 : PySem.W.keepIn K (.ref f7) = true)
    {f8 : Addr} {od8 an8 : Option Addr} {sl8 : Array (Option Value)} {oc8 kV8 dc8 pm8 cd8 ct8 : Value}
    (a8 : PySem.W.nsIn K mainGlobals "range_for" = some (some (.ref f8))) (l8 : K.lookup f8 = some ⟨oc8, od8, .func (PySem.W.fnOf "range_for" "range_for" (defArgs st_range_for) (defBody st_range_for) (defScope st_range_for) .none kV8 dc8 pm8 an8 cd8 ct8), sl8⟩) (c8 : PySem.W.codeIn K cd8 "range_for" = true) (k8 : PySem.W.keepIn K (.ref f8) = true)
    {f9 : Addr} {od9 an9 : Option Addr} {sl9 : Array (Option Value)} {oc9 kV9 dc9 pm9 cd9 ct9 : Value}
    (a9 : PySem.W.nsIn K mainGlobals "fewest_more" = some (some (.ref f9))) (l9 : K.lookup f9 = some ⟨oc9, od9, .func (PySem.W.fnOf "fewest_more" "fewest_more" (defArgs st_fewest_more) (defBody st_fewest_more) (defScope st_fewest_more) .none kV9 dc9 pm9 an9 cd9 ct9), sl9⟩) (c9 : PySem.W.codeIn K cd9 "fewest_more" = true) (k9 : PySem.W.keepIn K (.ref f9) = true)
    {f10 : Addr} {od10 an10 : Option Addr} {sl10 : Array (Option Value)} {oc10 kV10 dc10 pm10 cd10 ct10 : Value}
    (a10 : PySem.W.nsIn K mainGlobals "_law_bag" = some (some (.ref f10))) (l10 : K.lookup f10 = some ⟨oc10, od10, .func (PySem.W.fnOf "_law_bag" "_law_bag" (defArgs st_law_bag) (defBody st_law_bag) (defScope st_law_bag) .none kV10 dc10 pm10 an10 cd10 ct10), sl10⟩) (c10 : PySem.W.codeIn K cd10 "_law_bag" = true) (k10 : PySem.W.keepIn K (.ref f10) = true)
    {f11 : Addr} {od11 an11 : Option Addr} {sl11 : Array (Option Value)} {oc11 kV11 dc11 pm11 cd11 ct11 : Value}
    (a11 : PySem.W.nsIn K mainGlobals "_law_take" = some (some (.ref f11))) (l11 : K.lookup f11 = some ⟨oc11, od11, .func (PySem.W.fnOf "_law_take" "_law_take" (defArgs st_law_take) (defBody st_law_take) (defScope st_law_take) .none kV11 dc11 pm11 an11 cd11 ct11), sl11⟩) (c11 : PySem.W.codeIn K cd11 "_law_take" = true) (k11 : PySem.W.keepIn K (.ref f11) = true)
    {f12 : Addr} {od12 an12 : Option Addr} {sl12 : Array (Option Value)} {oc12 kV12 dc12 pm12 cd12 ct12 : Value}
    (a12 : PySem.W.nsIn K mainGlobals "_law_of" = some (some (.ref f12))) (l12 : K.lookup f12 = some ⟨oc12, od12, .func (PySem.W.fnOf "_law_of" "_law_of" (defArgs st_law_of) (defBody st_law_of) (defScope st_law_of) .none kV12 dc12 pm12 an12 cd12 ct12), sl12⟩) (c12 : PySem.W.codeIn K cd12 "_law_of" = true) (k12 : PySem.W.keepIn K (.ref f12) = true)
    {f13 : Addr} {od13 an13 : Option Addr} {sl13 : Array (Option Value)} {oc13 kV13 dc13 pm13 cd13 ct13 : Value}
    (a13 : PySem.W.nsIn K mainGlobals "_law_scale" = some (some (.ref f13))) (l13 : K.lookup f13 = some ⟨oc13, od13, .func (PySem.W.fnOf "_law_scale" "_law_scale" (defArgs st_law_scale) (defBody st_law_scale) (defScope st_law_scale) .none kV13 dc13 pm13 an13 cd13 ct13), sl13⟩) (c13 : PySem.W.codeIn K cd13 "_law_scale" = true) (k13 : PySem.W.keepIn K (.ref f13) = true)
    {f14 : Addr} {od14 an14 : Option Addr} {sl14 : Array (Option Value)} {oc14 kV14 dc14 pm14 cd14 ct14 : Value}
    (a14 : PySem.W.nsIn K mainGlobals "_law_number" = some (some (.ref f14))) (l14 : K.lookup f14 = some ⟨oc14, od14, .func (PySem.W.fnOf "_law_number" "_law_number" (defArgs st_law_number) (defBody st_law_number) (defScope st_law_number) .none kV14 dc14 pm14 an14 cd14 ct14), sl14⟩) (c14 : PySem.W.codeIn K cd14 "_law_number" = true) (k14 : PySem.W.keepIn K (.ref f14) = true)
    {f15 : Addr} {od15 an15 : Option Addr} {sl15 : Array (Option Value)} {oc15 kV15 dc15 pm15 cd15 ct15 : Value}
    (a15 : PySem.W.nsIn K mainGlobals "_law_poll" = some (some (.ref f15))) (l15 : K.lookup f15 = some ⟨oc15, od15, .func (PySem.W.fnOf "_law_poll" "_law_poll" (defArgs st_law_poll) (defBody st_law_poll) (defScope st_law_poll) .none kV15 dc15 pm15 an15 cd15 ct15), sl15⟩) (c15 : PySem.W.codeIn K cd15 "_law_poll" = true) (k15 : PySem.W.keepIn K (.ref f15) = true)
    {f16 : Addr} {od16 an16 : Option Addr} {sl16 : Array (Option Value)} {oc16 kV16 dc16 pm16 cd16 ct16 : Value}
    (a16 : PySem.W.nsIn K mainGlobals "_law_fewest" = some (some (.ref f16))) (l16 : K.lookup f16 = some ⟨oc16, od16, .func (PySem.W.fnOf "_law_fewest" "_law_fewest" (defArgs st_law_fewest) (defBody st_law_fewest) (defScope st_law_fewest) .none kV16 dc16 pm16 an16 cd16 ct16), sl16⟩) (c16 : PySem.W.codeIn K cd16 "_law_fewest" = true) (k16 : PySem.W.keepIn K (.ref f16) = true)
    {f17 : Addr} {od17 an17 : Option Addr} {sl17 : Array (Option Value)} {oc17 kV17 dc17 pm17 cd17 ct17 : Value}
    (a17 : PySem.W.nsIn K mainGlobals "law" = some (some (.ref f17))) (l17 : K.lookup f17 = some ⟨oc17, od17, .func (PySem.W.fnOf "law" "law" (defArgs st_law) (defBody st_law) (defScope st_law) .none kV17 dc17 pm17 an17 cd17 ct17), sl17⟩) (c17 : PySem.W.codeIn K cd17 "law" = true) (k17 : PySem.W.keepIn K (.ref f17) = true)
    {C0 : Addr} (ea0 : PySem.W.nsIn K mainGlobals "InvalidRule" = some (some (.ref C0))) (ex0 : PySem.W.excIn K C0 [.type "ValueError", .type "Exception", .type "BaseException", .type "object"] "ValueError.__new__" = true) (ek0 : PySem.W.keepIn K (.ref C0) = true) (eb0 : PySem.W.subIn K (.ref C0) (.type "BaseException") = some true) (et0 : PySem.W.typeIn K (.ref C0) = some (.type "type"))
    {C1 : Addr} (ea1 : PySem.W.nsIn K mainGlobals "InvalidVotes" = some (some (.ref C1))) (ex1 : PySem.W.excIn K C1 [.type "ValueError", .type "Exception", .type "BaseException", .type "object"] "ValueError.__new__" = true) (ek1 : PySem.W.keepIn K (.ref C1) = true) (eb1 : PySem.W.subIn K (.ref C1) (.type "BaseException") = some true) (et1 : PySem.W.typeIn K (.ref C1) = some (.type "type"))
    {fh : Addr} {oh : Option Addr} {nh : Nat} {slh : Array (Option Value)} {th1 th2 : _} (ha : PySem.W.nsIn K mainGlobals "HALVES" = some (some (.ref fh))) (hl : K.lookup fh = some ⟨.type "tuple", oh, .seq #[.str "up" th1, .str "down" th2] nh, slh⟩)
    (li0 : (("MOST" : Str), PySem.W.WData.int 1000000) ∈ lv)
    (li1 : (("TOTAL" : Str), PySem.W.WData.int 10000) ∈ lv)
    (z_isinstance : PySem.W.nsIn K mainGlobals "isinstance" = some none)
    (z_int : PySem.W.nsIn K mainGlobals "int" = some none)
    (z_bool : PySem.W.nsIn K mainGlobals "bool" = some none)
    (z_str : PySem.W.nsIn K mainGlobals "str" = some none)
    (z_tuple : PySem.W.nsIn K mainGlobals "tuple" = some none)
    (z_list : PySem.W.nsIn K mainGlobals "list" = some none)
    (z_set : PySem.W.nsIn K mainGlobals "set" = some none)
    (z_dict : PySem.W.nsIn K mainGlobals "dict" = some none)
    (z_len : PySem.W.nsIn K mainGlobals "len" = some none)
    (z_max : PySem.W.nsIn K mainGlobals "max" = some none)
    (z_min : PySem.W.nsIn K mainGlobals "min" = some none)
    (z_sum : PySem.W.nsIn K mainGlobals "sum" = some none)
    (z_all : PySem.W.nsIn K mainGlobals "all" = some none)
    (z_any : PySem.W.nsIn K mainGlobals "any" = some none)
    (z_range : PySem.W.nsIn K mainGlobals "range" = some none)
    (z_zip : PySem.W.nsIn K mainGlobals "zip" = some none)
    (z_enumerate : PySem.W.nsIn K mainGlobals "enumerate" = some none)
    (z_reversed : PySem.W.nsIn K mainGlobals "reversed" = some none)
    (z_sorted : PySem.W.nsIn K mainGlobals "sorted" = some none)
    : ∃ fd : FuncData, (∀ (s : Shared) (v : Value), BindsTo s fd ⟨[v], []⟩ [("script", v)]) ∧ ∀ base : Heap, K.In base → base.Ns mainGlobals mg → FnOk l.prog w K mg base (L2.CX l.prog w) 5 fa fd ["script"] (spP K mg M_law) := by
  have e := hfa.symm.trans (PySem.W.mg_of X G a17)
  cases e
  have F0 := fun_mk (st := st_is_integer) l0 c0 k0
  have b0 := F0.binds (ps := ["value", "low", "high"]) fun _ _ _ _ _ _ us hl => match us, hl with | [_, _, _], _ => rfl
  have F1 := fun_mk (st := st_is_rule) l1 c1 k1
  have b1 := F1.binds (ps := ["value"]) fun _ _ _ _ _ _ us hl => match us, hl with | [_], _ => rfl
  have F2 := fun_mk (st := st_require_rule) l2 c2 k2
  have b2 := F2.binds (ps := ["rule"]) fun _ _ _ _ _ _ us hl => match us, hl with | [_], _ => rfl
  have F3 := fun_mk (st := st_scale_of) l3 c3 k3
  have b3 := F3.binds (ps := ["rule"]) fun _ _ _ _ _ _ us hl => match us, hl with | [_], _ => rfl
  have F4 := fun_mk (st := st_are_votes) l4 c4 k4
  have b4 := F4.binds (ps := ["value"]) fun _ _ _ _ _ _ us hl => match us, hl with | [_], _ => rfl
  have F5 := fun_mk (st := st_require_votes) l5 c5 k5
  have b5 := F5.binds (ps := ["votes"]) fun _ _ _ _ _ _ us hl => match us, hl with | [_], _ => rfl
  have F6 := fun_mk (st := st_shown) l6 c6 k6
  have b6 := F6.binds (ps := ["rule", "votes", "total"]) fun _ _ _ _ _ _ us hl => match us, hl with | [_, _, _], _ => rfl
  have F7 := fun_mk (st := st_shown_numbers) l7 c7 k7
  have b7 := F7.binds (ps := ["rule", "votes"]) fun _ _ _ _ _ _ us hl => match us, hl with | [_, _], _ => rfl
  have F8 := fun_mk (st := st_range_for) l8 c8 k8
  have b8 := F8.binds (ps := ["rule", "total", "number"]) fun _ _ _ _ _ _ us hl => match us, hl with | [_, _, _], _ => rfl
  have F9 := fun_mk (st := st_fewest_more) l9 c9 k9
  have b9 := F9.binds (ps := ["rule", "votes", "option", "number", "most"]) fun _ _ _ _ _ _ us hl => match us, hl with | [_, _, _, _, _], _ => rfl
  have F10 := fun_mk (st := st_law_bag) l10 c10 k10
  have b10 := F10.binds (ps := ["script", "k"]) fun _ _ _ _ _ _ us hl => match us, hl with | [_, _], _ => rfl
  have F11 := fun_mk (st := st_law_take) l11 c11 k11
  have b11 := F11.binds (ps := ["bag", "count"]) fun _ _ _ _ _ _ us hl => match us, hl with | [_, _], _ => rfl
  have F12 := fun_mk (st := st_law_of) l12 c12 k12
  have b12 := F12.binds (ps := ["bag", "some"]) fun _ _ _ _ _ _ us hl => match us, hl with | [_, _], _ => rfl
  have F13 := fun_mk (st := st_law_scale) l13 c13 k13
  have b13 := F13.binds (ps := ["rule"]) fun _ _ _ _ _ _ us hl => match us, hl with | [_], _ => rfl
  have F14 := fun_mk (st := st_law_number) l14 c14 k14
  have b14 := F14.binds (ps := ["rule", "votes", "total"]) fun _ _ _ _ _ _ us hl => match us, hl with | [_, _, _], _ => rfl
  have F15 := fun_mk (st := st_law_poll) l15 c15 k15
  have b15 := F15.binds (ps := ["bag", "rule", "options", "most", "wide"]) fun _ _ _ _ _ _ us hl => match us, hl with | [_, _, _, _, _], _ => rfl
  have F16 := fun_mk (st := st_law_fewest) l16 c16 k16
  have b16 := F16.binds (ps := ["rule", "votes", "option", "number", "most"]) fun _ _ _ _ _ _ us hl => match us, hl with | [_, _, _, _, _], _ => rfl
  have F17 := fun_mk (st := st_law) l17 c17 k17
  refine ⟨PySem.W.fnOf "law" "law" (defArgs st_law) (defBody st_law) (defScope st_law) .none kV17 dc17 pm17 an17 cd17 ct17, fun s v => .of_eq rfl, fun base _ _ => ?_⟩
  exact top_ok (M := ⟨l.prog, w, K, mg, base⟩) ⟨PySem.W.mg_none_of X G z_isinstance, PySem.W.mg_none_of X G z_int, PySem.W.mg_none_of X G z_bool, PySem.W.mg_none_of X G z_str, PySem.W.mg_none_of X G z_tuple, PySem.W.mg_none_of X G z_list, PySem.W.mg_none_of X G z_set, PySem.W.mg_none_of X G z_dict, PySem.W.mg_none_of X G z_len, PySem.W.mg_none_of X G z_max, PySem.W.mg_none_of X G z_min, PySem.W.mg_none_of X G z_sum, PySem.W.mg_none_of X G z_all, PySem.W.mg_none_of X G z_any, PySem.W.mg_none_of X G z_range, PySem.W.mg_none_of X G z_zip, PySem.W.mg_none_of X G z_enumerate, PySem.W.mg_none_of X G z_reversed, PySem.W.mg_none_of X G z_sorted⟩
    ⟨C0, PySem.W.mg_of X G ea0, ex0, ek0, eb0, et0⟩
    ⟨C1, PySem.W.mg_of X G ea1, ex1, ek1, eb1, et1⟩
    (gc_loose loose li0)
    (gc_loose loose li1)
    (gc_two (PySem.W.mg_of X G ha) hl)
    F0 (PySem.W.mg_of X G a0) b0
    F1 (PySem.W.mg_of X G a1) b1
    F2 (PySem.W.mg_of X G a2) b2
    F3 (PySem.W.mg_of X G a3) b3
    F4 (PySem.W.mg_of X G a4) b4
    F5 (PySem.W.mg_of X G a5) b5
    F6 (PySem.W.mg_of X G a6) b6
    F7 (PySem.W.mg_of X G a7) b7
    F8 (PySem.W.mg_of X G a8) b8
    F9 (PySem.W.mg_of X G a9) b9
    F10 (PySem.W.mg_of X G a10) b10
    F11 (PySem.W.mg_of X G a11) b11
    F12 (PySem.W.mg_of X G a12) b12
    F13 (PySem.W.mg_of X G a13) b13
    F14 (PySem.W.mg_of X G a14) b14
    F15 (PySem.W.mg_of X G a15) b15
    F16 (PySem.W.mg_of X G a16) b16
    F17
end Pj
open PySem PySem.W PyProof.Rows
set_option maxHeartbeats 0 in
theorem PySem.Challenge.cw_pollshots_k17_whole_fewest_further_votes_holds : PySem.Challenge.rw_pollshots_k17_whole_fewest_further_votes.Holds := by
  w_on; o_law; k_head; (case hw => w_witness2)
  k_fill
  refine Pj.walk_ofX (l := PySem.Challenge.rw_pollshots_k17_whole_fewest_further_votes) (n := 63) (k := 5) (x := "script") (CX := fun w => L2.CX (PySem.Challenge.rw_pollshots_k17_whole_fewest_further_votes).prog w) (sp := fun w mg => Pj.spP _ mg Pj.M_law) rfl (by decide) rfl ⟨rfl, by decide, by decide⟩ (fun w h Y => PySem.W.kIn_of Y) ?F (fun w mg H a ns hl hS => Pj.law_sp hl hS) (fun w H s e s' h => Pj.cx_no h)
  case F =>
    intro w mg fa h KX G XP hmg
    refine' Pj.all_mk KX G hmg XP.2 ?pj_a0 ?pj_l0 ?pj_c0 ?pj_k0 ?pj_a1 ?pj_l1 ?pj_c1 ?pj_k1 ?pj_a2 ?pj_l2 ?pj_c2 ?pj_k2 ?pj_a3 ?pj_l3 ?pj_c3 ?pj_k3 ?pj_a4 ?pj_l4 ?pj_c4 ?pj_k4 ?pj_a5 ?pj_l5 ?pj_c5 ?pj_k5 ?pj_a6 ?pj_l6 ?pj_c6 ?pj_k6 ?pj_a7 ?pj_l7 ?pj_c7 ?pj_k7 ?pj_a8 ?pj_l8 ?pj_c8 ?pj_k8 ?pj_a9 ?pj_l9 ?pj_c9 ?pj_k9 ?pj_a10 ?pj_l10 ?pj_c10 ?pj_k10 ?pj_a11 ?pj_l11 ?pj_c11 ?pj_k11 ?pj_a12 ?pj_l12 ?pj_c12 ?pj_k12 ?pj_a13 ?pj_l13 ?pj_c13 ?pj_k13 ?pj_a14 ?pj_l14 ?pj_c14 ?pj_k14 ?pj_a15 ?pj_l15 ?pj_c15 ?pj_k15 ?pj_a16 ?pj_l16 ?pj_c16 ?pj_k16 ?pj_a17 ?pj_l17 ?pj_c17 ?pj_k17 ?pj_ea0 ?pj_ex0 ?pj_ek0 ?pj_eb0 ?pj_et0 ?pj_ea1 ?pj_ex1 ?pj_ek1 ?pj_eb1 ?pj_et1 ?pj_ha ?pj_hl ?pj_li0 ?pj_li1 ?pj_z_isinstance ?pj_z_int ?pj_z_bool ?pj_z_str ?pj_z_tuple ?pj_z_list ?pj_z_set ?pj_z_dict ?pj_z_len ?pj_z_max ?pj_z_min ?pj_z_sum ?pj_z_all ?pj_z_any ?pj_z_range ?pj_z_zip ?pj_z_enumerate ?pj_z_reversed ?pj_z_sorted
    (case pj_a0 => k_is); (case pj_l0 => k_is); (case pj_c0 => k_is); (case pj_k0 => k_is); (case pj_a1 => k_is); (case pj_l1 => k_is); (case pj_c1 => k_is); (case pj_k1 => k_is)
    (case pj_a2 => k_is); (case pj_l2 => k_is); (case pj_c2 => k_is); (case pj_k2 => k_is); (case pj_a3 => k_is); (case pj_l3 => k_is); (case pj_c3 => k_is); (case pj_k3 => k_is)
    (case pj_a4 => k_is); (case pj_l4 => k_is); (case pj_c4 => k_is); (case pj_k4 => k_is); (case pj_a5 => k_is); (case pj_l5 => k_is); (case pj_c5 => k_is); (case pj_k5 => k_is)
    (case pj_a6 => k_is); (case pj_l6 => k_is); (case pj_c6 => k_is); (case pj_k6 => k_is); (case pj_a7 => k_is); (case pj_l7 => k_is); (case pj_c7 => k_is); (case pj_k7 => k_is)
    (case pj_a8 => k_is); (case pj_l8 => k_is); (case pj_c8 => k_is); (case pj_k8 => k_is); (case pj_a9 => k_is); (case pj_l9 => k_is); (case pj_c9 => k_is); (case pj_k9 => k_is)
    (case pj_a10 => k_is); (case pj_l10 => k_is); (case pj_c10 => k_is); (case pj_k10 => k_is); (case pj_a11 => k_is); (case pj_l11 => k_is); (case pj_c11 => k_is); (case pj_k11 => k_is)
    (case pj_a12 => k_is); (case pj_l12 => k_is); (case pj_c12 => k_is); (case pj_k12 => k_is); (case pj_a13 => k_is); (case pj_l13 => k_is); (case pj_c13 => k_is); (case pj_k13 => k_is)
    (case pj_a14 => k_is); (case pj_l14 => k_is); (case pj_c14 => k_is); (case pj_k14 => k_is); (case pj_a15 => k_is); (case pj_l15 => k_is); (case pj_c15 => k_is); (case pj_k15 => k_is)
    (case pj_a16 => k_is); (case pj_l16 => k_is); (case pj_c16 => k_is); (case pj_k16 => k_is); (case pj_a17 => k_is); (case pj_l17 => k_is); (case pj_c17 => k_is); (case pj_k17 => k_is)
    (case pj_ea0 => k_is); (case pj_ex0 => k_exc); (case pj_ek0 => k_is); (case pj_eb0 => k_is); (case pj_et0 => k_is); (case pj_ea1 => k_is); (case pj_ex1 => k_exc); (case pj_ek1 => k_is)
    (case pj_eb1 => k_is); (case pj_et1 => k_is); (case pj_ha => k_is); (case pj_hl => k_is); (case pj_li0 => simp); (case pj_li1 => simp); (case pj_z_isinstance => k_is); (case pj_z_int => k_is)
    (case pj_z_bool => k_is); (case pj_z_str => k_is); (case pj_z_tuple => k_is); (case pj_z_list => k_is); (case pj_z_set => k_is); (case pj_z_dict => k_is); (case pj_z_len => k_is); (case pj_z_max => k_is)
    (case pj_z_min => k_is); (case pj_z_sum => k_is); (case pj_z_all => k_is); (case pj_z_any => k_is); (case pj_z_range => k_is); (case pj_z_zip => k_is); (case pj_z_enumerate => k_is); (case pj_z_reversed => k_is)
    (case pj_z_sorted => k_is)
