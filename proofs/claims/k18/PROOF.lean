import PyProof.Rows.All
import Wide.All
import OpenK.AllK
import Wide.FinOn
import HandS.ForMost
import HandS.ForExc
import HandS.IsInst
import HandS.TupAny
import HandS.Walk
import HandS.Zip
import HandS.Rev
import HandS.CallSlots
import HandS.Wide
import HandS.Ends
import HandS.Zip0
import PyProof.Draws
import KE.KDictZip
import KE.KItemsList
import PyProof.EnumMake
import HandS.Iter
import HandS.Deep
import HandS.TupMul
import HandS.More
import PyProof.SetRoads
import PyProof.Rows.SetFrom
import KE.GoesNew
import KE.GoesMore
import HandS.Style
import HandS.SetFor
import HandS.Strs
import HandS.SortInts
import HandS.Conv
import KE.DataCmp
import KE.SortData
import PyProof.MinMaxWalk
import HandS.Flow
import KE.KRevSl
import HandS.Exc
import HandS.ExcIs
import PySem.Challenge.RW_pollshots_k18_whole_what_more_decimals_s
set_option Elab.async false
set_option linter.all false
set_option maxRecDepth 100000
/-! Pj: values as plain data, slots, judgements that hide the heap. -/
namespace Pj
open PySem PySem.Spec PyProof.Rows L2

abbrev PD := PyData
/-- the content of a thing that the def alone holds -/
inductive Ct where
  | lst (ds : List PD)
  | dk (kvs : List (Key × PD))
/-- a slot: unset, a value that nobody changes, an own thing, a thing lent by the caller (at its address) -/
inductive Sl where
  | un
  | va (d : PD)
  | ow (c : Ct)
  | br (a : Addr) (c : Ct)
abbrev En := List Sl
def Sl.ct : Sl → Option Ct
  | .ow c => some c
  | .br _ c => some c
  | _ => none
def Sl.isAt (a : Addr) : Sl → Prop
  | .br b _ => b = a
  | _ => True
inductive Rs where
  | va (d : PD)
  | ow (c : Ct)

inductive KAll (K : PySem.W.Frag) (F : Hp) : List (Key × V) → List (Key × PD) → Prop
  | nil : KAll K F [] []
  | cons {k : Key} {v : V} {d : PD} {vs : List (Key × V)} {ds : List (Key × PD)} : Dp K F v d → KAll K F vs ds → KAll K F ((k, v) :: vs) ((k, d) :: ds)
def CtOk (K : PySem.W.Frag) (F : Hp) : HO → Ct → Prop
  | .lst vs, .lst ds => DpAll K F vs ds
  | .dK vs, .dk ds => KAll K F vs ds
  | _, _ => False

section
variable {K : PySem.W.Frag} {F F' H H' : Hp}
theorem Same.seqT (e : Same H H') {a : Addr} {xs : List V} (h : SqT K H a xs) : SqT K H' a xs := by
  rcases h with (h | ⟨o, h⟩) | h
  · exact .inl (.inl (e _ _ h))
  · exact .inl (.inr ⟨o, e _ _ h⟩)
  · exact .inr h
mutual
theorem dp_mono (e : Same F F') : ∀ (d : PD) (v : V), Dp K F v d → Dp K F' v d
  | .none, _, h => by cases h; exact .non
  | .bool _, _, h => by cases h; exact .bl _
  | .int _, _, h => by cases h; exact .int _
  | .str _, _, h => by cases h; exact .str _
  | .list ds, _, h => by
    cases h with
    | lst hs ha => exact .lst (Same.seq e hs) (dpAll_mono e ds _ ha)
  | .tuple ds, _, h => by
    cases h with
    | tup hs ha => exact .tup (Same.seqT e hs) (dpAll_mono e ds _ ha)
  | .dict _, _, h => by cases h
theorem dpAll_mono (e : Same F F') : ∀ (ds : List PD) (vs : List V), DpAll K F vs ds → DpAll K F' vs ds
  | [], _, h => by cases h; exact .nil
  | d :: ds, _, h => by
    cases h with
    | cons h1 h2 => exact .cons (dp_mono e d _ h1) (dpAll_mono e ds _ h2)
end
theorem Dp.mono {v : V} {d : PD} (h : Dp K F v d) (e : Same F F') : Dp K F' v d := dp_mono e d v h
theorem DpAll.mono {v : List V} {d : List PD} (h : DpAll K F v d) (e : Same F F') : DpAll K F' v d := dpAll_mono e d v h
theorem KAll.mono {v : List (Key × V)} {d : List (Key × PD)} (h : KAll K F v d) (e : Same F F') : KAll K F' v d := by
  induction h with
  | nil => exact .nil
  | cons h _ ih => exact .cons (Dp.mono h e) ih
theorem CtOk.mono {o : HO} {c : Ct} (h : CtOk K F o c) (e : Same F F') : CtOk K F' o c := by
  cases o <;> cases c <;> first | exact h.elim | exact DpAll.mono h e | exact KAll.mono h e
theorem DpAll.len {vs : List V} : ∀ {ds : List PD}, DpAll K F vs ds → vs.length = ds.length := by
  induction vs with
  | nil => intro ds h; cases h; rfl
  | cons v vs ih => intro ds h; cases h with | cons h1 h2 => simp [ih h2]
theorem DpAll.get {ds : List PD} : ∀ {vs : List V} {i : Nat} {d : PD}, DpAll K F vs ds → ds[i]? = some d → ∃ v, vs[i]? = some v ∧ Dp K F v d := by
  induction ds with
  | nil => intro vs i d h e; simp at e
  | cons x ds ih =>
    intro vs i d h e
    cases h with
    | cons h1 h2 =>
      cases i with
      | zero => simp at e; subst e; exact ⟨_, rfl, h1⟩
      | succ i => simp at e; simpa using ih h2 e
theorem DpAll.at {vs : List V} : ∀ {ds : List PD} {i : Nat} {v : V}, DpAll K F vs ds → vs[i]? = some v → ∃ d, ds[i]? = some d ∧ Dp K F v d := by
  induction vs with
  | nil => intro vs i d h e; simp at e
  | cons x ds ih =>
    intro vs i d h e
    cases h with
    | cons h1 h2 =>
      cases i with
      | zero => simp at e; subst e; exact ⟨_, rfl, h1⟩
      | succ i => simp at e; simpa using ih h2 e
theorem DpAll.append {vs ws : List V} {ds es : List PD} (h : DpAll K F vs ds) (g : DpAll K F ws es) : DpAll K F (vs ++ ws) (ds ++ es) := by
  induction vs generalizing ds with
  | nil => cases h; exact g
  | cons v vs ih => cases h with | cons h1 h2 => exact .cons h1 (ih h2)
theorem DpAll.set {vs : List V} {ds : List PD} (h : DpAll K F vs ds) {v : V} {d : PD} (g : Dp K F v d) (i : Nat) : DpAll K F (vs.set i v) (ds.set i d) := by
  induction vs generalizing ds i with
  | nil => cases h; exact .nil
  | cons v vs ih =>
    cases h with
    | cons h1 h2 =>
      cases i with
      | zero => exact .cons g h2
      | succ i => exact .cons h1 (ih h2 i)
theorem DpAll.take {vs : List V} {ds : List PD} (h : DpAll K F vs ds) (n : Nat) : DpAll K F (vs.take n) (ds.take n) := by
  induction vs generalizing ds n with
  | nil => cases h; simp; exact .nil
  | cons v vs ih =>
    cases h with
    | cons h1 h2 =>
      cases n with
      | zero => exact .nil
      | succ n => exact .cons h1 (ih h2 n)
theorem DpAll.drop {vs : List V} {ds : List PD} (h : DpAll K F vs ds) (n : Nat) : DpAll K F (vs.drop n) (ds.drop n) := by
  induction vs generalizing ds n with
  | nil => cases h; simp; exact .nil
  | cons v vs ih =>
    cases h with
    | cons h1 h2 =>
      cases n with
      | zero => exact .cons h1 h2
      | succ n => exact ih h2 n
theorem DpAll.reverse {vs : List V} {ds : List PD} (h : DpAll K F vs ds) : DpAll K F vs.reverse ds.reverse := by
  induction vs generalizing ds with
  | nil => cases h; exact .nil
  | cons v vs ih =>
    cases h with
    | cons h1 h2 => rw [List.reverse_cons, List.reverse_cons]; exact DpAll.append (ih h2) (.cons h1 .nil)
theorem DpAll.ints {ns : List Int} : ∀ {vs : List V}, DpAll K F vs (ns.map PyData.int) → vs = ns.map V.int := by
  induction ns with
  | nil => intro vs h; cases h; rfl
  | cons n ns ih => intro vs h; cases h with | cons h1 h2 => cases h1; rw [ih h2]; rfl
theorem DpAll.bls {ns : List Bool} : ∀ {vs : List V}, DpAll K F vs (ns.map PyData.bool) → vs = ns.map V.bl := by
  induction ns with
  | nil => intro vs h; cases h; rfl
  | cons n ns ih => intro vs h; cases h with | cons h1 h2 => cases h1; rw [ih h2]; rfl
theorem DpAll.strs {ns : List Str} : ∀ {vs : List V}, DpAll K F vs (ns.map PyData.str) → vs = ns.map V.str := by
  induction ns with
  | nil => intro vs h; cases h; rfl
  | cons n ns ih => intro vs h; cases h with | cons h1 h2 => cases h1; rw [ih h2]; rfl
end

/-! ### environments -/
def OwAt (σ : L2.St) (ρ : En) (i : Nat) (a : Addr) : Prop := (∃ s c, ρ[i]? = some s ∧ s.ct = some c) ∧ σ[i]? = some (some (.ref a))

structure RE (K : PySem.W.Frag) (F H : Hp) (σ : L2.St) (ρ : En) : Prop where
  len : σ.length = ρ.length
  fh : Same F H
  va : ∀ (i : Nat) (d : PD), ρ[i]? = some (Sl.va d) → ∃ v : V, σ[i]? = some (some v) ∧ Dp K F v d
  ob : ∀ (i : Nat) (s : Sl) (c : Ct), ρ[i]? = some s → s.ct = some c → ∃ (a : Addr) (o : HO), σ[i]? = some (some (.ref a)) ∧ s.isAt a ∧ F a = none ∧ H a = some o ∧ CtOk K F o c
  inj : ∀ i j a, OwAt σ ρ i a → OwAt σ ρ j a → i = j

theorem RE.owAt {K : PySem.W.Frag} {F H : Hp} {σ : L2.St} {ρ : En} (R : RE K F H σ ρ) {i : Nat} {a : Addr} (h : OwAt σ ρ i a) : F a = none ∧ ∃ o, H a = some o := by
  obtain ⟨⟨s, c, h1, h2⟩, h3⟩ := h
  obtain ⟨b, o, e1, _, e2, e3, _⟩ := R.ob i s c h1 h2
  rw [h3] at e1
  cases e1
  exact ⟨e2, o, e3⟩

/-- what became of the heap -/
structure Ext (σ : L2.St) (ρ : En) (F H : Hp) (σ' : L2.St) (ρ' : En) (F' H' : Hp) : Prop where
  ff : Same F F'
  hh : ∀ b o, H b = some o → (∀ i, ¬ OwAt σ ρ i b) → H' b = some o
  nf : ∀ b o, F b = none → H b = some o → (∀ i, ¬ OwAt σ ρ i b) → F' b = none
  ow : ∀ i a, OwAt σ' ρ' i a → (∃ j, OwAt σ ρ j a) ∨ H a = none
  tr : ∀ b, H' b = none → H b = none

theorem Ext.refl {σ : L2.St} {ρ : En} {F H : Hp} : Ext σ ρ F H σ ρ F H := ⟨Same.refl _, fun _ _ h _ => h, fun _ _ h _ _ => h, fun i _ h => .inl ⟨i, h⟩, fun _ h => h⟩
theorem Ext.trans {σ σ1 σ2 : L2.St} {ρ ρ1 ρ2 : En} {F H F1 H1 F2 H2 : Hp} (a : Ext σ ρ F H σ1 ρ1 F1 H1) (b : Ext σ1 ρ1 F1 H1 σ2 ρ2 F2 H2) : Ext σ ρ F H σ2 ρ2 F2 H2 := by
  have key : ∀ c o, H c = some o → (∀ i, ¬ OwAt σ ρ i c) → ∀ i, ¬ OwAt σ1 ρ1 i c := fun c o h n i q => by
    rcases a.ow i c q with ⟨j, z⟩ | z
    · exact n j z
    · rw [h] at z; cases z
  refine ⟨a.ff.trans b.ff, fun c o h n => b.hh c o (a.hh c o h n) (key c o h n), fun c o f h n => b.nf c o (a.nf c o f h n) (a.hh c o h n) (key c o h n), fun i c q => ?_, fun c z => a.tr c (b.tr c z)⟩
  rcases b.ow i c q with ⟨j, z⟩ | z
  · exact a.ow j c z
  · exact .inr (a.tr c z)

/-- nothing that was there has changed -/
structure Xt (F H F' H' : Hp) : Prop where
  ff : Same F F'
  hh : Same H H'
  fh : Same F' H'
  nf : ∀ b o, F b = none → H b = some o → F' b = none
theorem Xt.refl {F H : Hp} (e : Same F H) : Xt F H F H := ⟨Same.refl _, Same.refl _, e, fun _ _ h _ => h⟩
theorem Xt.trans {F H F1 H1 F2 H2 : Hp} (a : Xt F H F1 H1) (b : Xt F1 H1 F2 H2) : Xt F H F2 H2 :=
  ⟨a.ff.trans b.ff, a.hh.trans b.hh, b.fh, fun c o f h => b.nf c o (a.nf c o f h) (a.hh c o h)⟩
theorem same_upd {H : Hp} {p : Addr} {o : HO} (h : H p = none) : Same H (upd H p o) := fun b x e => by
  rw [upd_ne (ne_of_none e h)]
  exact e
theorem same_upd2 {F H : Hp} {p : Addr} {o : HO} (e : Same F H) : Same (upd F p o) (upd H p o) := fun b x h => by
  by_cases z : b = p
  · subst z; rw [upd_same] at h ⊢; exact h
  · rw [upd_ne z] at h ⊢; exact e _ _ h
/-- a new thing, held by nobody else -/
theorem Xt.own {F H : Hp} {p : Addr} {o : HO} (e : Same F H) (h : H p = none) : Xt F H F (upd H p o) := ⟨Same.refl _, same_upd h, e.trans (same_upd h), fun _ _ f _ => f⟩
/-- a new thing that nobody will change -/
theorem Xt.frz {F H : Hp} {p : Addr} {o : HO} (e : Same F H) (h : H p = none) : Xt F H (upd F p o) (upd H p o) :=
  ⟨same_upd (Same.free e h), same_upd h, same_upd2 e, fun b u f g => by rw [upd_ne (ne_of_none g h)]; exact f⟩

theorem RE.ext {K : PySem.W.Frag} {F H F' H' : Hp} {σ : L2.St} {ρ : En} (R : RE K F H σ ρ) (x : Xt F H F' H') : RE K F' H' σ ρ ∧ Ext σ ρ F H σ ρ F' H' := by
  refine ⟨⟨R.len, x.fh, fun i d h => ?_, fun i s c h1 h2 => ?_, R.inj⟩, ⟨x.ff, fun b o h _ => x.hh b o h, fun b o f h _ => x.nf b o f h, fun i a h => .inl ⟨i, h⟩, fun b z => Same.free x.hh z⟩⟩
  · obtain ⟨v, e, z⟩ := R.va i d h
    exact ⟨v, e, Dp.mono z x.ff⟩
  · obtain ⟨a, o, e1, e2, e3, e4, e5⟩ := R.ob i s c h1 h2
    exact ⟨a, o, e1, e2, x.nf _ _ e3 e4, x.hh _ _ e4, CtOk.mono e5 x.ff⟩

/-- a value by itself: H0 the heap ahead of it -/
def PRs (K : PySem.W.Frag) (H0 F H : Hp) (v : V) : Rs → Prop
  | .va d => Dp K F v d
  | .ow c => ∃ a o, v = .ref a ∧ F a = none ∧ H a = some o ∧ CtOk K F o c ∧ H0 a = none
def RsOk (K : PySem.W.Frag) (H0 F H : Hp) (σ : L2.St) (ρ : En) (v : V) (r : Rs) : Prop := PRs K H0 F H v r ∧ ∀ c a, r = .ow c → v = .ref a → ∀ i, ¬ OwAt σ ρ i a

/-- how an expression ends -/
inductive EO where
  | ok (ρ : En) (r : Rs)
  | ex (ρ : En) (n : Str) (p : Option (Str × PD))
def XCond (K : PySem.W.Frag) (mg : Str → Option Value) (F H : Hp) (n : Str) (p : Option (Str × PD)) (E : Value → Option Addr → Hp → Prop) : Prop :=
  ∀ C, mg n = some (.ref C) → match p with
    | none => E (.ref C) none H
    | some (f, d) => ∀ dx v, H dx = some (.xd [(f, v)]) → Dp K F v d → E (.ref C) (some dx) H
def EPost (X : Cx) (W : WX) (F H : Hp) (σ : L2.St) (ρ : En) (Q : VK) : EO → Prop
  | .ok ρ' r => ∀ F' H' v, Ext σ ρ F H σ ρ' F' H' → RE X.K F' H' σ ρ' → RsOk X.K H F' H' σ ρ' v r → Q v H'
  | .ex ρ' n p => ∀ F' H', Ext σ ρ F H σ ρ' F' H' → RE X.K F' H' σ ρ' → XCond X.K X.mg F' H' n p (fun c d H2 => W c d σ H2)
def EJ (X : Cx) (W : WX) (e : Expr) (ρ : En) (o : EO) : Prop := ∃ t, PE X e t ∧ ∀ F H σ Q, RE X.K F H σ ρ → EPost X W F H σ ρ Q o → t σ H Q
def TJ (X : Cx) (W : WX) (e : Expr) (ρ ρ' : En) (b : Bool) : Prop := ∃ t, PT X e t ∧ ∀ F H σ Q, RE X.K F H σ ρ → (∀ F' H', Ext σ ρ F H σ ρ' F' H' → RE X.K F' H' σ ρ' → Q b H') → t σ H Q
def WJ (X : Cx) (W : WX) (e : Expr) (ρ ρ' : En) (b : Bool) : Prop := ∃ t, PW X e t ∧ ∀ F H σ Q, RE X.K F H σ ρ → (∀ F' H', Ext σ ρ F H σ ρ' F' H' → RE X.K F' H' σ ρ' → Q b H') → t σ H Q
def AJ (X : Cx) (W : WX) (es : List Expr) (ρ ρ' : En) (ds : List PD) : Prop := ∃ t, PA X es t ∧ ∀ F H σ Q, RE X.K F H σ ρ → (∀ F' H' vs, Ext σ ρ F H σ ρ' F' H' → RE X.K F' H' σ ρ' → DpAll X.K F' vs ds → Q vs H') → t σ H Q
/-- how a statement ends -/
inductive SO where
  | nx (ρ : En)
  | rt (ρ : En) (r : Rs)
  | bk (ρ : En)
  | ct (ρ : En)
  | ex (ρ : En) (n : Str) (p : Option (Str × PD))
def SPost (X : Cx) (W : WX) (F H : Hp) (σ : L2.St) (ρ : En) (D : Ends) : SO → Prop
  | .nx ρ' => ∀ F' H' σ', Ext σ ρ F H σ' ρ' F' H' → RE X.K F' H' σ' ρ' → D.nx σ' H'
  | .bk ρ' => ∀ F' H' σ', Ext σ ρ F H σ' ρ' F' H' → RE X.K F' H' σ' ρ' → D.bk σ' H'
  | .ct ρ' => ∀ F' H' σ', Ext σ ρ F H σ' ρ' F' H' → RE X.K F' H' σ' ρ' → D.ct σ' H'
  | .rt ρ' r => ∀ F' H' σ' v, Ext σ ρ F H σ' ρ' F' H' → RE X.K F' H' σ' ρ' → RsOk X.K H F' H' σ' ρ' v r → D.rt v H'
  | .ex ρ' n p => ∀ F' H' σ', Ext σ ρ F H σ' ρ' F' H' → RE X.K F' H' σ' ρ' → XCond X.K X.mg F' H' n p (fun c d H2 => W c d σ' H2)
def SJ (X : Cx) (W : WX) (st : Stmt) (ρ : En) (o : SO) : Prop := ∃ t, PS X st t ∧ ∀ F H σ D, RE X.K F H σ ρ → SPost X W F H σ ρ D o → t D σ H
def BJ (X : Cx) (W : WX) (st : List Stmt) (ρ : En) (o : SO) : Prop := ∃ t, PSs X st t ∧ ∀ F H σ D, RE X.K F H σ ρ → SPost X W F H σ ρ D o → t D σ H

theorem RsOk.pull {K : PySem.W.Frag} {H0 H1 F H : Hp} {σ : L2.St} {ρ : En} {v : V} {r : Rs} (h : RsOk K H1 F H σ ρ v r) (tr : ∀ b, H1 b = none → H0 b = none) : RsOk K H0 F H σ ρ v r := by
  refine ⟨?_, h.2⟩
  cases r with
  | va d => exact h.1
  | ow c =>
    obtain ⟨a, o, h1, h2, h3, h4, h5⟩ := h.1
    exact ⟨a, o, h1, h2, h3, h4, tr _ h5⟩
theorem EPost.pull {X : Cx} {W : WX} {F H F1 H1 : Hp} {σ : L2.St} {ρ ρ1 : En} {Q : VK} {o : EO} (h : EPost X W F H σ ρ Q o) (x : Ext σ ρ F H σ ρ1 F1 H1) : EPost X W F1 H1 σ ρ1 Q o := by
  cases o with
  | ok ρ' r => exact fun F' H' v y R q => h F' H' v (x.trans y) R (q.pull x.tr)
  | ex ρ' n p => exact fun F' H' y R => h F' H' (x.trans y) R
theorem SPost.pull {X : Cx} {W : WX} {F H F1 H1 : Hp} {σ σ1 : L2.St} {ρ ρ1 : En} {D : Ends} {o : SO} (h : SPost X W F H σ ρ D o) (x : Ext σ ρ F H σ1 ρ1 F1 H1) : SPost X W F1 H1 σ1 ρ1 D o := by
  cases o with
  | nx ρ' => exact fun F' H' σ' y R => h F' H' σ' (x.trans y) R
  | bk ρ' => exact fun F' H' σ' y R => h F' H' σ' (x.trans y) R
  | ct ρ' => exact fun F' H' σ' y R => h F' H' σ' (x.trans y) R
  | rt ρ' r => exact fun F' H' σ' v y R q => h F' H' σ' v (x.trans y) R (q.pull x.tr)
  | ex ρ' n p => exact fun F' H' σ' y R => h F' H' σ' (x.trans y) R
theorem EPost.fin {X : Cx} {W : WX} {F H F1 H1 : Hp} {σ : L2.St} {ρ : En} {Q : VK} {z : Rs} {v : V} (h : EPost X W F H σ ρ Q (.ok ρ z)) (R : RE X.K F H σ ρ) (x : Xt F H F1 H1) (p : PRs X.K H F1 H1 v z) : Q v H1 := by
  obtain ⟨R1, e⟩ := R.ext x
  refine h F1 H1 v e R1 ⟨p, fun c a e1 e2 i q => ?_⟩
  subst e1
  obtain ⟨a', o, h1, _, _, _, h5⟩ := p
  rw [h1] at e2
  cases e2
  obtain ⟨_, o, z⟩ := R.owAt q
  rw [h5] at z
  cases z

/-! ### what is left undone -/
section
variable {X : Cx}
theorem pe_never {e : Expr} : PE X e (fun _ _ _ => False) := ⟨fun _ _ _ _ _ _ h => h.elim⟩
theorem pt_never {e : Expr} : PT X e (fun _ _ _ => False) := ⟨fun _ _ _ _ _ _ h => h.elim⟩
theorem pw_never {e : Expr} : PW X e (fun _ _ _ => False) := ⟨fun _ _ _ _ _ _ _ h => h.elim⟩
theorem pa_never {e : List Expr} : PA X e (fun _ _ _ => False) := ⟨fun _ _ _ _ _ _ _ h => h.elim⟩
end
end Pj

set_option Elab.async false
set_option linter.all false
set_option maxRecDepth 100000
namespace Pj
open PySem PySem.Spec PyProof.Rows L2
section
variable {X : Cx} {W : WX} {e a b c : Expr} {es : List Expr} {ρ ρ1 ρ2 ρ3 : En} {o : EO} {d x y : PD} {ds : List PD} {z : Rs} {pos p : Pos}

/-! ### atoms -/
theorem ej_var (i : Nat) {n : Str} (hd : ρ[i]? = some (.va d) := by rfl) (hN : X.N[i]? = some n := by rfl) (hv : Vis X.env.scope n := by first | exact Or.inl rfl | exact Or.inr (Or.inl rfl) | exact Or.inr (Or.inr rfl)) (hdb : (n == ("__debug__" : Str)) = false := by decide)
    (hcd : (n == ("__classdict__" : Str)) = false := by decide) : EJ X W (.Name n pos) ρ (.ok ρ (.va d)) := by
  refine ⟨_, pe_var hN hv hdb hcd, fun F H σ Q R h => ?_⟩
  obtain ⟨v, e1, e2⟩ := R.va i d hd
  exact ⟨v, e1, h.fin R (Xt.refl R.fh) e2⟩
/-- the slot of an own list is from now on a value -/
theorem re_frz {K : PySem.W.Frag} {F H : Hp} {σ : L2.St} {i : Nat} {ds : List PD} (R : RE K F H σ ρ) (hd : ρ[i]? = some (.ow (.lst ds))) :
    ∃ a vs, σ[i]? = some (some (.ref a)) ∧ H a = some (.lst vs) ∧ F a = none ∧ Same F (upd F a (.lst vs)) ∧ RE K (upd F a (.lst vs)) H σ (ρ.set i (.va (.list ds))) ∧ Ext σ ρ F H σ (ρ.set i (.va (.list ds))) (upd F a (.lst vs)) H ∧ Dp K (upd F a (.lst vs)) (.ref a) (.list ds) := by
  obtain ⟨a, u, e1, _, e3, e4, e5⟩ := R.ob i _ _ hd rfl
  cases u with
  | lst vs =>
    have sF : Same F (upd F a (.lst vs)) := same_upd e3
    have dp : Dp K (upd F a (.lst vs)) (.ref a) (.list ds) := .lst (SqL.of upd_same) (DpAll.mono (show DpAll K F vs ds from e5) sF)
    have hi : i < ρ.length := (List.getElem?_eq_some_iff.mp hd).1
    have hA : OwAt σ ρ i a := ⟨⟨_, _, hd, rfl⟩, e1⟩
    have back : ∀ j b, OwAt σ (ρ.set i (.va (.list ds))) j b → OwAt σ ρ j b ∧ j ≠ i := fun j b ⟨⟨s, c, h1, h2⟩, h3⟩ => by
      by_cases z : j = i
      · subst z
        rw [List.getElem?_set_self hi] at h1
        cases h1
        cases h2
      · rw [List.getElem?_set_ne (Ne.symm z)] at h1
        exact ⟨⟨⟨s, c, h1, h2⟩, h3⟩, z⟩
    refine ⟨a, vs, e1, e4, e3, sF, ⟨by rw [R.len, List.length_set], fun b x h => ?_, fun j d h => ?_, fun j s c h1 h2 => ?_, fun j k b h1 h2 => R.inj j k b (back j b h1).1 (back k b h2).1⟩, ⟨sF, fun b o h _ => h, fun b o f h n => ?_, fun j b h => .inl ⟨j, (back j b h).1⟩, fun _ h => h⟩, dp⟩
    · by_cases z : b = a
      · subst z; rw [upd_same] at h; cases h; exact e4
      · rw [upd_ne z] at h; exact R.fh _ _ h
    · by_cases z : j = i
      · subst z
        rw [List.getElem?_set_self hi] at h
        cases h
        exact ⟨_, e1, dp⟩
      · rw [List.getElem?_set_ne (Ne.symm z)] at h
        obtain ⟨v, q1, q2⟩ := R.va j d h
        exact ⟨v, q1, Dp.mono q2 sF⟩
    · by_cases z : j = i
      · subst z
        rw [List.getElem?_set_self hi] at h1
        cases h1
        cases h2
      · rw [List.getElem?_set_ne (Ne.symm z)] at h1
        obtain ⟨a', u, q1, q2, q3, q4, q5⟩ := R.ob j s c h1 h2
        have ne : a' ≠ a := fun w => z (R.inj j i a ⟨⟨s, c, h1, h2⟩, by rw [q1, w]⟩ hA)
        exact ⟨a', u, q1, q2, by rw [upd_ne ne]; exact q3, q4, CtOk.mono q5 sF⟩
    · by_cases z : b = a
      · subst z; exact absurd hA (n i)
      · rw [upd_ne z]; exact f
  | _ => exact e5.elim
theorem ej_frz (i : Nat) {n : Str} (hd : ρ[i]? = some (.ow (.lst ds)) := by rfl) (hN : X.N[i]? = some n := by rfl) (hv : Vis X.env.scope n := by first | exact Or.inl rfl | exact Or.inr (Or.inl rfl) | exact Or.inr (Or.inr rfl)) (hdb : (n == ("__debug__" : Str)) = false := by decide)
    (hcd : (n == ("__classdict__" : Str)) = false := by decide) : EJ X W (.Name n pos) ρ (.ok (ρ.set i (.va (.list ds))) (.va (.list ds))) := by
  refine ⟨_, pe_var hN hv hdb hcd, fun F H σ Q R h => ?_⟩
  obtain ⟨a, vs, e1, e2, e3, e4, R2, x, dp⟩ := re_frz R hd
  exact ⟨_, e1, h _ _ _ x R2 ⟨dp, fun _ _ z => nomatch z⟩⟩
/-- a fresh list as a value -/
theorem EJ.frz (h : EJ X W e ρ (.ok ρ1 (.ow (.lst ds)))) : EJ X W e ρ (.ok ρ1 (.va (.list ds))) := by
  obtain ⟨t, h1, h2⟩ := h
  refine ⟨t, h1, fun F H σ Q R q => h2 F H σ Q R fun F' H' v x R' r => ?_⟩
  obtain ⟨⟨a, u, rfl, f1, f2, f3, f4⟩, n⟩ := r
  have n := n _ a rfl rfl
  cases u with
  | lst vs =>
    have sF : Same F' (upd F' a (.lst vs)) := same_upd f1
    have dp : Dp X.K (upd F' a (.lst vs)) (.ref a) (.list ds) := .lst (SqL.of upd_same) (DpAll.mono (show DpAll X.K F' vs ds from f3) sF)
    refine q (upd F' a (.lst vs)) H' (.ref a) ⟨x.ff.trans sF, x.hh, fun b o g h m => ?_, x.ow, x.tr⟩ ⟨R'.len, fun b o h => ?_, fun j d h => ?_, fun j s c h1 h2 => ?_, R'.inj⟩ ⟨dp, fun _ _ z => nomatch z⟩
    · rw [upd_ne (ne_of_none h f4)]
      exact x.nf b o g h m
    · by_cases z : b = a
      · subst z; rw [upd_same] at h; cases h; exact f2
      · rw [upd_ne z] at h; exact R'.fh _ _ h
    · obtain ⟨v, q1, q2⟩ := R'.va j d h
      exact ⟨v, q1, Dp.mono q2 sF⟩
    · obtain ⟨a', u, q1, q2, q3, q4, q5⟩ := R'.ob j s c h1 h2
      have ne : a' ≠ a := fun w => n j ⟨⟨s, c, h1, h2⟩, by rw [q1, w]⟩
      exact ⟨a', u, q1, q2, by rw [upd_ne ne]; exact q3, q4, CtOk.mono q5 sF⟩
  | _ => exact f3.elim
theorem ej_int {i : Int} {j : Nat} : EJ X W (.Constant (.int i) j pos) ρ (.ok ρ (.va (.int i))) := ⟨_, pe_int, fun F H σ Q R h => h.fin R (Xt.refl R.fh) (.int i)⟩
theorem ej_bl {i : Bool} {j : Nat} : EJ X W (.Constant (.bool i) j pos) ρ (.ok ρ (.va (.bool i))) := ⟨_, pe_bl, fun F H σ Q R h => h.fin R (Xt.refl R.fh) (.bl i)⟩
theorem ej_non {j : Nat} : EJ X W (.Constant .none j pos) ρ (.ok ρ (.va .none)) := ⟨_, pe_non, fun F H σ Q R h => h.fin R (Xt.refl R.fh) .non⟩
theorem ej_str {i : Str} {j : Nat} : EJ X W (.Constant (.str i) j pos) ρ (.ok ρ (.va (.str i))) := ⟨_, pe_str, fun F H σ Q R h => h.fin R (Xt.refl R.fh) (.str i)⟩
/-- a constant of the module: u stands for d whatever is tracked -/
def GlV (K : PySem.W.Frag) (u : Value) (d : PD) : Prop := ∃ v, RelV v u ∧ ∀ F, Dp K F v d
theorem ej_glob {n : Str} {u : Value} (hm : X.mg n = some u) (hu : GlV X.K u d) (hg : Gl X n := by rfl) (hd : (n == ("__debug__" : Str)) = false := by decide) : EJ X W (.Name n pos) ρ (.ok ρ (.va d)) := by
  obtain ⟨v, r, q⟩ := hu
  exact ⟨_, pe_glob hg hm r hd, fun F H σ Q R h => h.fin R (Xt.refl R.fh) (q F)⟩

/-! ### operators by values -/
def P2 (K : PySem.W.Frag) (r : R2) (x y : PD) (z : Rs) : Prop := ∀ F H vx vy Q, Same F H → Dp K F vx x → Dp K F vy y → (∀ F' H' v, Xt F H F' H' → PRs K H F' H' v z → Q v H') → r vx vy H Q
def P1 (K : PySem.W.Frag) (r : V → Hp → VK → Prop) (x : PD) (z : Rs) : Prop := ∀ F H vx Q, Same F H → Dp K F vx x → (∀ F' H' v, Xt F H F' H' → PRs K H F' H' v z → Q v H') → r vx H Q
def PC (K : PySem.W.Frag) (r : List V → Hp → VK → Prop) (ds : List PD) (z : Rs) : Prop := ∀ F H vs Q, Same F H → DpAll K F vs ds → (∀ F' H' v, Xt F H F' H' → PRs K H F' H' v z → Q v H') → r vs H Q
theorem ej_op {op : Operator} {r : R2} (ho : OpR X (binaryOp op) r) (ha : EJ X W a ρ (.ok ρ1 (.va x))) (hb : EJ X W b ρ1 (.ok ρ2 (.va y))) (hp : P2 X.K r x y z) : EJ X W (.BinOp a op b pos) ρ (.ok ρ2 z) := by
  obtain ⟨ta, a1, a2⟩ := ha
  obtain ⟨tb, b1, b2⟩ := hb
  refine ⟨_, pe_op ho a1 b1, fun F H σ Q R h => a2 F H σ _ R fun F1 H1 v1 x1 R1 q1 => b2 F1 H1 σ _ R1 fun F2 H2 v2 x2 R2 q2 => ?_⟩
  exact hp F2 H2 v1 v2 Q R2.fh (Dp.mono q1.1 x2.ff) q2.1 fun F' H' v t q => (h.pull (x1.trans x2)).fin R2 t q
theorem ej_un {op : UnaryOp} {r : V → Hp → VK → Prop} (ho : UnR X (unaryOp op) r) (ha : EJ X W a ρ (.ok ρ1 (.va x))) (hp : P1 X.K r x z) : EJ X W (.UnaryOp op a pos) ρ (.ok ρ1 z) := by
  obtain ⟨ta, a1, a2⟩ := ha
  refine ⟨_, pe_un ho a1, fun F H σ Q R h => a2 F H σ _ R fun F1 H1 v1 x1 R1 q1 => ?_⟩
  exact hp F1 H1 v1 Q R1.fh q1.1 fun F' H' v t q => (h.pull x1).fin R1 t q
theorem ej_cmp {op : CmpOp} {r : R2} (ho : OpR X (compareOp op) r) (ha : EJ X W a ρ (.ok ρ1 (.va x))) (hb : EJ X W b ρ1 (.ok ρ2 (.va y))) (hp : P2 X.K r x y z) (hm : behindInMarks op b = false := by first | exact nomark _ | rfl) : EJ X W (.Compare a [op] [b] pos) ρ (.ok ρ2 z) := by
  obtain ⟨ta, a1, a2⟩ := ha
  obtain ⟨tb, b1, b2⟩ := hb
  refine ⟨_, pe_cmpR ho a1 b1 hm, fun F H σ Q R h => a2 F H σ _ R fun F1 H1 v1 x1 R1 q1 => b2 F1 H1 σ _ R1 fun F2 H2 v2 x2 R2 q2 => ?_⟩
  exact hp F2 H2 v1 v2 Q R2.fh (Dp.mono q1.1 x2.ff) q2.1 fun F' H' v t q => (h.pull (x1.trans x2)).fin R2 t q
theorem tj_cmp {op : CmpOp} {r : R2} {k : Bool} (ho : OpR X (compareOp op) r) (ha : EJ X W a ρ (.ok ρ1 (.va x))) (hb : EJ X W b ρ1 (.ok ρ2 (.va y))) (hp : P2 X.K r x y (.va (.bool k))) (hm : behindInMarks op b = false := by first | exact nomark _ | rfl) : TJ X W (.Compare a [op] [b] pos) ρ ρ2 k := by
  obtain ⟨ta, a1, a2⟩ := ha
  obtain ⟨tb, b1, b2⟩ := hb
  refine ⟨_, pt_cmpR ho a1 b1 hm, fun F H σ Q R h => a2 F H σ _ R fun F1 H1 v1 x1 R1 q1 => b2 F1 H1 σ _ R1 fun F2 H2 v2 x2 R2 q2 => ?_⟩
  refine hp F2 H2 v1 v2 _ R2.fh (Dp.mono q1.1 x2.ff) q2.1 fun F' H' v t q => ?_
  cases (show Dp X.K F' v (.bool k) from q)
  obtain ⟨R3, x3⟩ := R2.ext t
  exact ⟨k, rfl, h F' H' ((x1.trans x2).trans x3) R3⟩
theorem ej_chain {op op' : CmpOp} {r r' : R2} {k k' : Bool} {w : PD} (ho : OpR X (compareOp op) r) (ho' : OpR X (compareOp op') r') (ha : EJ X W a ρ (.ok ρ (.va x))) (hb : EJ X W b ρ (.ok ρ (.va y))) (hp : P2 X.K r x y (.va (.bool k)))
    (hc : k = true → EJ X W c ρ (.ok ρ (.va w))) (hp' : k = true → P2 X.K r' y w (.va (.bool k'))) (hm : lastMarks [op, op'] [b, c] = false := by with_unfolding_all rfl) : EJ X W (.Compare a [op, op'] [b, c] pos) ρ (.ok ρ (.va (.bool (k && k')))) := by
  obtain ⟨ta, a1, a2⟩ := ha
  obtain ⟨tb, b1, b2⟩ := hb
  cases k with
  | true =>
    obtain ⟨tc, c1, c2⟩ := hc rfl
    refine ⟨_, pe_chain ho ho' a1 b1 c1 hm, fun F H σ Q R h => a2 F H σ _ R fun F1 H1 v1 x1 R1 q1 => b2 F1 H1 σ _ R1 fun F2 H2 v2 x2 R2 q2 => ?_⟩
    refine hp F2 H2 v1 v2 _ R2.fh (Dp.mono q1.1 x2.ff) q2.1 fun F' H' v t q => ?_
    cases (show Dp X.K F' v (.bool true) from q)
    obtain ⟨R3, x3⟩ := R2.ext t
    refine ⟨true, rfl, ?_⟩
    rw [if_pos rfl]
    refine c2 F' H' σ _ R3 fun F4 H4 v4 x4 R4 q4 => ?_
    exact hp' rfl F4 H4 v2 v4 Q R4.fh (Dp.mono (Dp.mono q2.1 x3.ff) x4.ff) q4.1 fun F5 H5 v5 t5 q5 => (h.pull (((x1.trans x2).trans x3).trans x4)).fin R4 t5 q5
  | false =>
    refine ⟨_, pe_chain ho ho' a1 b1 (pe_never (e := c)) hm, fun F H σ Q R h => a2 F H σ _ R fun F1 H1 v1 x1 R1 q1 => b2 F1 H1 σ _ R1 fun F2 H2 v2 x2 R2 q2 => ?_⟩
    refine hp F2 H2 v1 v2 _ R2.fh (Dp.mono q1.1 x2.ff) q2.1 fun F' H' v t q => ?_
    cases (show Dp X.K F' v (.bool false) from q)
    refine ⟨false, rfl, ?_⟩
    rw [if_neg Bool.false_ne_true]
    exact (h.pull (x1.trans x2)).fin R2 t (.bl false)
theorem tj_chain {op op' : CmpOp} {r r' : R2} {k k' : Bool} {w : PD} (ho : OpR X (compareOp op) r) (ho' : OpR X (compareOp op') r') (ha : EJ X W a ρ (.ok ρ (.va x))) (hb : EJ X W b ρ (.ok ρ (.va y))) (hp : P2 X.K r x y (.va (.bool k)))
    (hc : k = true → EJ X W c ρ (.ok ρ (.va w))) (hp' : k = true → P2 X.K r' y w (.va (.bool k'))) (hm : lastMarks [op, op'] [b, c] = false := by with_unfolding_all rfl) : TJ X W (.Compare a [op, op'] [b, c] pos) ρ ρ (k && k') := by
  obtain ⟨ta, a1, a2⟩ := ha
  obtain ⟨tb, b1, b2⟩ := hb
  cases k with
  | true =>
    obtain ⟨tc, c1, c2⟩ := hc rfl
    refine ⟨_, pt_chain ho ho' a1 b1 c1 hm, fun F H σ Q R h => a2 F H σ _ R fun F1 H1 v1 x1 R1 q1 => b2 F1 H1 σ _ R1 fun F2 H2 v2 x2 R2 q2 => ?_⟩
    refine hp F2 H2 v1 v2 _ R2.fh (Dp.mono q1.1 x2.ff) q2.1 fun F' H' v t q => ?_
    cases (show Dp X.K F' v (.bool true) from q)
    obtain ⟨R3, x3⟩ := R2.ext t
    refine ⟨true, rfl, ?_⟩
    rw [if_pos rfl]
    refine c2 F' H' σ _ R3 fun F4 H4 v4 x4 R4 q4 => ?_
    refine hp' rfl F4 H4 v2 v4 _ R4.fh (Dp.mono (Dp.mono q2.1 x3.ff) x4.ff) q4.1 fun F5 H5 v5 t5 q5 => ?_
    cases (show Dp X.K F5 v5 (.bool k') from q5)
    obtain ⟨R5, x5⟩ := R4.ext t5
    exact ⟨k', rfl, h F5 H5 ((((x1.trans x2).trans x3).trans x4).trans x5) R5⟩
  | false =>
    refine ⟨_, pt_chain ho ho' a1 b1 (pe_never (e := c)) hm, fun F H σ Q R h => a2 F H σ _ R fun F1 H1 v1 x1 R1 q1 => b2 F1 H1 σ _ R1 fun F2 H2 v2 x2 R2 q2 => ?_⟩
    refine hp F2 H2 v1 v2 _ R2.fh (Dp.mono q1.1 x2.ff) q2.1 fun F' H' v t q => ?_
    cases (show Dp X.K F' v (.bool false) from q)
    obtain ⟨R3, x3⟩ := R2.ext t
    refine ⟨false, rfl, ?_⟩
    rw [if_neg Bool.false_ne_true]
    exact ⟨false, rfl, h F' H' ((x1.trans x2).trans x3) R3⟩

/-! ### tests -/
theorem tj_val {k : Bool} (h : EJ X W e ρ (.ok ρ1 (.va (.bool k)))) (he : ∀ whole, isTrue e X.env whole = (do let v ← whole; standAt e.pos; holding [v] (truthy v)) := by intro _; rfl) : TJ X W e ρ ρ1 k := by
  obtain ⟨t, h1, h2⟩ := h
  refine ⟨_, pt_val h1 he, fun F H σ Q R q => h2 F H σ _ R fun F1 H1 v1 x1 R1 q1 => ?_⟩
  cases (show Dp X.K F1 v1 (.bool k) from q1.1)
  exact ⟨k, rfl, q F1 H1 x1 R1⟩
/-- the truth of a value -/
def truP : PD → Bool
  | .none => false
  | .bool b => b
  | .int i => i != 0
  | .list ds => !ds.isEmpty
  | .tuple ds => !ds.isEmpty
  | _ => false
def truOk : PD → Bool
  | .str _ => false
  | .dict _ => false
  | _ => true
theorem DpAll.isEmpty {K : PySem.W.Frag} {F : Hp} {vs : List V} {ds : List PD} (h : DpAll K F vs ds) : vs.isEmpty = ds.isEmpty := by cases h <;> rfl
theorem tj_tru (h : EJ X W e ρ (.ok ρ1 (.va d))) (hd : truOk d = true) (he : ∀ whole, isTrue e X.env whole = (do let v ← whole; standAt e.pos; holding [v] (truthy v)) := by intro _; rfl) : TJ X W e ρ ρ1 (truP d) := by
  obtain ⟨t, h1, h2⟩ := h
  refine ⟨_, pt_truth h1 he, fun F H σ Q R q => h2 F H σ _ R fun F1 H1 v1 x1 R1 q1 => ⟨truP d, ?_, q F1 H1 x1 R1⟩⟩
  have g : Dp X.K F1 v1 d := q1.1
  cases g with
  | non => rfl
  | bl b => rfl
  | int i => rfl
  | str s => cases hd
  | lst hs ha => exact .inl ⟨_, Same.seq R1.fh hs, by rw [DpAll.isEmpty ha]; rfl⟩
  | tup hs ha => exact .inr (.inl ⟨_, Same.seqT R1.fh hs, by rw [DpAll.isEmpty ha]; rfl⟩)
/-- .. of an own list, by its name -/
theorem tj_truO (i : Nat) {n : Str} {s : Sl} (hd : ρ[i]? = some s) (hs : s.ct = some (.lst ds)) (hN : X.N[i]? = some n := by rfl) (hv : Vis X.env.scope n := by first | exact Or.inl rfl | exact Or.inr (Or.inl rfl) | exact Or.inr (Or.inr rfl)) (hdb : (n == ("__debug__" : Str)) = false := by decide)
    (hcd : (n == ("__classdict__" : Str)) = false := by decide) : TJ X W (.Name n pos) ρ ρ (!ds.isEmpty) := by
  refine ⟨_, pt_truth (pe_var hN hv hdb hcd) (by intro _; rfl), fun F H σ Q R q => ?_⟩
  obtain ⟨a, u, e1, _, e3, e4, e5⟩ := R.ob i s _ hd hs
  cases u with
  | lst vs => exact ⟨_, e1, _, .inl ⟨vs, SqL.of e4, rfl⟩, by rw [DpAll.isEmpty (show DpAll X.K F vs ds from e5)]; exact q F H Ext.refl R⟩
  | _ => exact e5.elim
theorem tj_not {k : Bool} (h : TJ X W a ρ ρ1 k) : TJ X W (.UnaryOp .Not a pos) ρ ρ1 (!k) := by
  obtain ⟨t, h1, h2⟩ := h
  exact ⟨_, pt_not h1, fun F H σ Q R q => h2 F H σ _ R q⟩
theorem WJ.tj {k : Bool} (h : WJ X W e ρ ρ1 k) : TJ X W e ρ ρ1 k := by
  obtain ⟨t, h1, h2⟩ := h
  exact ⟨t, h1.pt, h2⟩
theorem wj_and1 {k : Bool} (h : TJ X W a ρ ρ1 k) : WJ X W (.BoolOp .And [a] pos) ρ ρ1 k := by
  obtain ⟨t, h1, h2⟩ := h
  exact ⟨t, pw_and1 h1, h2⟩
theorem wj_or1 {k : Bool} (h : TJ X W a ρ ρ1 k) : WJ X W (.BoolOp .Or [a] pos) ρ ρ1 k := by
  obtain ⟨t, h1, h2⟩ := h
  exact ⟨t, pw_or1 h1, h2⟩
theorem wj_and {k k' : Bool} (h : TJ X W a ρ ρ k) (g : k = true → WJ X W (.BoolOp .And (b :: es) pos) ρ ρ k') : WJ X W (.BoolOp .And (a :: b :: es) pos) ρ ρ (k && k') := by
  obtain ⟨t, h1, h2⟩ := h
  cases k with
  | true =>
    obtain ⟨u, g1, g2⟩ := g rfl
    refine ⟨_, pw_and h1 g1, fun F H σ Q R q => h2 F H σ _ R fun F1 H1 x1 R1 => ?_⟩
    rw [if_pos rfl]
    exact g2 F1 H1 σ Q R1 fun F2 H2 x2 R2 => q F2 H2 (x1.trans x2) R2
  | false =>
    refine ⟨_, pw_and h1 (pw_never (e := .BoolOp .And (b :: es) pos)), fun F H σ Q R q => h2 F H σ _ R fun F1 H1 x1 R1 => ?_⟩
    rw [if_neg Bool.false_ne_true]
    exact q F1 H1 x1 R1
theorem wj_or {k k' : Bool} (h : TJ X W a ρ ρ k) (g : k = false → WJ X W (.BoolOp .Or (b :: es) pos) ρ ρ k') : WJ X W (.BoolOp .Or (a :: b :: es) pos) ρ ρ (k || k') := by
  obtain ⟨t, h1, h2⟩ := h
  cases k with
  | false =>
    obtain ⟨u, g1, g2⟩ := g rfl
    refine ⟨_, pw_or h1 g1, fun F H σ Q R q => h2 F H σ _ R fun F1 H1 x1 R1 => ?_⟩
    rw [if_neg Bool.false_ne_true]
    exact g2 F1 H1 σ Q R1 fun F2 H2 x2 R2 => q F2 H2 (x1.trans x2) R2
  | true =>
    refine ⟨_, pw_or h1 (pw_never (e := .BoolOp .Or (b :: es) pos)), fun F H σ Q R q => h2 F H σ _ R fun F1 H1 x1 R1 => ?_⟩
    rw [if_pos rfl]
    exact q F1 H1 x1 R1
theorem ej_one {op : BoolOp} {o : EO} (h : EJ X W a ρ o) : EJ X W (.BoolOp op [a] pos) ρ o := by
  obtain ⟨t, h1, h2⟩ := h
  exact ⟨t, pe_one h1, h2⟩
theorem ej_and {k k' : Bool} (h : EJ X W a ρ (.ok ρ (.va (.bool k)))) (g : k = true → EJ X W (.BoolOp .And (b :: es) pos) ρ (.ok ρ (.va (.bool k')))) : EJ X W (.BoolOp .And (a :: b :: es) pos) ρ (.ok ρ (.va (.bool (k && k')))) := by
  obtain ⟨t, h1, h2⟩ := h
  cases k with
  | true =>
    obtain ⟨u, g1, g2⟩ := g rfl
    refine ⟨_, pe_and h1 g1, fun F H σ Q R q => h2 F H σ _ R fun F1 H1 v1 x1 R1 q1 => ?_⟩
    cases (show Dp X.K F1 v1 (.bool true) from q1.1)
    refine ⟨true, rfl, ?_⟩
    rw [if_pos rfl]
    exact g2 F1 H1 σ Q R1 (q.pull x1)
  | false =>
    refine ⟨_, pe_and h1 (pe_never (e := .BoolOp .And (b :: es) pos)), fun F H σ Q R q => h2 F H σ _ R fun F1 H1 v1 x1 R1 q1 => ?_⟩
    cases (show Dp X.K F1 v1 (.bool false) from q1.1)
    refine ⟨false, rfl, ?_⟩
    rw [if_neg Bool.false_ne_true]
    exact (q.pull x1).fin R1 (Xt.refl R1.fh) (.bl false)
theorem ej_or {k k' : Bool} (h : EJ X W a ρ (.ok ρ (.va (.bool k)))) (g : k = false → EJ X W (.BoolOp .Or (b :: es) pos) ρ (.ok ρ (.va (.bool k')))) : EJ X W (.BoolOp .Or (a :: b :: es) pos) ρ (.ok ρ (.va (.bool (k || k')))) := by
  obtain ⟨t, h1, h2⟩ := h
  cases k with
  | false =>
    obtain ⟨u, g1, g2⟩ := g rfl
    refine ⟨_, pe_or h1 g1, fun F H σ Q R q => h2 F H σ _ R fun F1 H1 v1 x1 R1 q1 => ?_⟩
    cases (show Dp X.K F1 v1 (.bool false) from q1.1)
    refine ⟨false, rfl, ?_⟩
    rw [if_neg Bool.false_ne_true]
    exact g2 F1 H1 σ Q R1 (q.pull x1)
  | true =>
    refine ⟨_, pe_or h1 (pe_never (e := .BoolOp .Or (b :: es) pos)), fun F H σ Q R q => h2 F H σ _ R fun F1 H1 v1 x1 R1 q1 => ?_⟩
    cases (show Dp X.K F1 v1 (.bool true) from q1.1)
    refine ⟨true, rfl, ?_⟩
    rw [if_pos rfl]
    exact (q.pull x1).fin R1 (Xt.refl R1.fh) (.bl true)
theorem ej_not {k : Bool} (h : EJ X W a ρ (.ok ρ1 (.va (.bool k)))) : EJ X W (.UnaryOp .Not a pos) ρ (.ok ρ1 (.va (.bool (!k)))) := by
  obtain ⟨t, h1, h2⟩ := h
  refine ⟨_, pe_not h1, fun F H σ Q R q => h2 F H σ _ R fun F1 H1 v1 x1 R1 q1 => ?_⟩
  cases (show Dp X.K F1 v1 (.bool k) from q1.1)
  exact ⟨k, rfl, (q.pull x1).fin R1 (Xt.refl R1.fh) (.bl _)⟩
theorem ej_if {k : Bool} {o : EO} (h : TJ X W c ρ ρ1 k) (ha : k = true → EJ X W a ρ1 o) (hb : k = false → EJ X W b ρ1 o) : EJ X W (.IfExp c a b pos) ρ o := by
  obtain ⟨t, h1, h2⟩ := h
  cases k with
  | true =>
    obtain ⟨u, g1, g2⟩ := ha rfl
    refine ⟨_, pe_ifExp h1 g1 (pe_never (e := b)), fun F H σ Q R q => h2 F H σ _ R fun F1 H1 x1 R1 => ?_⟩
    rw [if_pos rfl]
    exact g2 F1 H1 σ Q R1 (q.pull x1)
  | false =>
    obtain ⟨u, g1, g2⟩ := hb rfl
    refine ⟨_, pe_ifExp h1 (pe_never (e := a)) g1, fun F H σ Q R q => h2 F H σ _ R fun F1 H1 x1 R1 => ?_⟩
    rw [if_neg Bool.false_ne_true]
    exact g2 F1 H1 σ Q R1 (q.pull x1)

/-! ### argument lists, displays -/
theorem aj_nil : AJ X W [] ρ ρ [] := ⟨_, pa_nil, fun F H σ Q R h => h F H [] Ext.refl R .nil⟩
theorem aj_cons (h : EJ X W e ρ (.ok ρ1 (.va d))) (g : AJ X W es ρ1 ρ2 ds) (hs : starEach (e :: es) X.env = (false, eval e X.env) :: starEach es X.env := by rfl) : AJ X W (e :: es) ρ ρ2 (d :: ds) := by
  obtain ⟨t, h1, h2⟩ := h
  obtain ⟨u, g1, g2⟩ := g
  refine ⟨_, pa_cons h1 g1 hs, fun F H σ Q R q => h2 F H σ _ R fun F1 H1 v1 x1 R1 q1 => g2 F1 H1 σ _ R1 fun F2 H2 vs x2 R2 q2 => ?_⟩
  exact q F2 H2 _ (x1.trans x2) R2 (.cons (Dp.mono q1.1 x2.ff) q2)
theorem ej_tup {k : Nat} (h : AJ X W es ρ ρ1 ds) (hz : ds.length ≤ sizeLine := by first | decide | (rw [sizeLine_eq]; simp)) : EJ X W (.Tuple es k pos) ρ (.ok ρ1 (.va (.tuple ds))) := by
  obtain ⟨t, h1, h2⟩ := h
  refine ⟨_, pe_tup h1, fun F H σ Q R q => h2 F H σ _ R fun F1 H1 vs x1 R1 q1 => ⟨by rw [DpAll.len q1]; exact hz, fun p np => ?_⟩⟩
  exact (q.pull x1).fin R1 (Xt.frz R1.fh np) (.tup (SqT.of upd_same) (DpAll.mono q1 (Xt.frz R1.fh np).ff))
theorem ej_lst (h : AJ X W es ρ ρ1 ds) (hz : ds.length ≤ sizeLine := by first | decide | (rw [sizeLine_eq]; simp)) : EJ X W (.List es pos) ρ (.ok ρ1 (.ow (.lst ds))) := by
  obtain ⟨t, h1, h2⟩ := h
  refine ⟨_, pe_lst h1, fun F H σ Q R q => h2 F H σ _ R fun F1 H1 vs x1 R1 q1 => ⟨by rw [DpAll.len q1]; exact hz, fun p np => ?_⟩⟩
  exact (q.pull x1).fin R1 (Xt.own R1.fh np) ⟨p, _, rfl, Same.free R1.fh np, upd_same, q1, np⟩

/-! ### subscripts and slices -/
theorem ej_ix {r : R2} (hr : IxR X r) (ha : EJ X W a ρ (.ok ρ1 (.va x))) (hb : EJ X W b ρ1 (.ok ρ2 (.va y))) (hp : P2 X.K r x y z) (hs : PlainIx b := by exact fun _ _ => rfl) : EJ X W (.Subscript a b pos) ρ (.ok ρ2 z) := by
  obtain ⟨ta, a1, a2⟩ := ha
  obtain ⟨tb, b1, b2⟩ := hb
  refine ⟨_, pe_ix hr a1 b1 hs, fun F H σ Q R h => a2 F H σ _ R fun F1 H1 v1 x1 R1 q1 => b2 F1 H1 σ _ R1 fun F2 H2 v2 x2 R2 q2 => ?_⟩
  exact hp F2 H2 v1 v2 Q R2.fh (Dp.mono q1.1 x2.ff) q2.1 fun F' H' v t q => (h.pull (x1.trans x2)).fin R2 t q
/-- an item of an own list, by its name -/
theorem ej_ixO (i : Nat) {n : Str} {s : Sl} {j : Int} {pn : Pos} (hb : EJ X W b ρ (.ok ρ1 (.va (.int j)))) (hd : ρ1[i]? = some s) (hs : s.ct = some (.lst ds)) (hd0 : ∃ s0 c0, ρ[i]? = some s0 ∧ s0.ct = some c0) (hj : atI ds j = some d) (hN : X.N[i]? = some n := by rfl)
    (hv : Vis X.env.scope n := by first | exact Or.inl rfl | exact Or.inr (Or.inl rfl) | exact Or.inr (Or.inr rfl)) (hdb : (n == ("__debug__" : Str)) = false := by decide) (hcd : (n == ("__classdict__" : Str)) = false := by decide) (hpx : PlainIx b := by exact fun _ _ => rfl) : EJ X W (.Subscript (.Name n pn) b pos) ρ (.ok ρ1 (.va d)) := by
  obtain ⟨tb, b1, b2⟩ := hb
  refine ⟨_, pe_ix ix_list (pe_var hN hv hdb hcd) b1 hpx, fun F H σ Q R h => ?_⟩
  obtain ⟨s0, c0, g1, g2⟩ := hd0
  obtain ⟨a0, u0, z1, _⟩ := R.ob i s0 c0 g1 g2
  refine ⟨_, z1, b2 F H σ _ R fun F1 H1 v1 x1 R1 q1 => ?_⟩
  obtain ⟨a, u, e1, _, e3, e4, e5⟩ := R1.ob i s _ hd hs
  rw [z1] at e1
  cases e1
  cases (show Dp X.K F1 v1 (.int j) from q1.1)
  cases u with
  | lst vs =>
    have e5 : DpAll X.K F1 vs ds := e5
    obtain ⟨k, hk1, hk2⟩ : ∃ k, ixN ds.length j = some k ∧ ds[k]? = some d := by
      unfold atI at hj
      cases hk : ixN ds.length j with
      | none => rw [hk] at hj; cases hj
      | some k => rw [hk] at hj; exact ⟨k, rfl, hj⟩
    obtain ⟨v, f1, f2⟩ := DpAll.get e5 hk2
    refine ⟨a0, vs, j, v, rfl, rfl, SqL.of e4, ?_, h _ _ _ x1 R1 ⟨f2, fun _ _ z => nomatch z⟩⟩
    unfold atI
    rw [DpAll.len e5, hk1]
    exact f1
  | _ => exact e5.elim
def OJ (X : Cx) (W : WX) (e : Option Expr) (ρ ρ' : En) (k : Option Int) : Prop := ∃ t, PO X e t ∧ ∀ F H σ Q, RE X.K F H σ ρ → (∀ F' H', Ext σ ρ F H σ ρ' F' H' → RE X.K F' H' σ ρ' → Q k H') → t σ H Q
theorem oj_none : OJ X W none ρ ρ none := ⟨_, po_none, fun F H σ Q R h => h F H Ext.refl R⟩
theorem oj_some {i : Int} (h : EJ X W e ρ (.ok ρ1 (.va (.int i)))) : OJ X W (some e) ρ ρ1 (some i) := by
  obtain ⟨t, h1, h2⟩ := h
  refine ⟨_, po_some h1, fun F H σ Q R q => h2 F H σ _ R fun F1 H1 v1 x1 R1 q1 => ?_⟩
  cases (show Dp X.K F1 v1 (.int i) from q1.1)
  exact ⟨i, rfl, q F1 H1 x1 R1⟩
def cutL {α : Type} (xs : List α) (lo hi : Option Int) : List α := (xs.drop (HT.sIx xs.length 0 lo)).take (HT.sIx xs.length xs.length hi - HT.sIx xs.length 0 lo)
theorem DpAll.cut {K : PySem.W.Frag} {F : Hp} {vs : List V} {ds : List PD} (h : DpAll K F vs ds) (lo hi : Option Int) : DpAll K F (cutV vs lo hi) (cutL ds lo hi) := by
  unfold cutV cutL
  rw [DpAll.len h]
  exact DpAll.take (DpAll.drop h _) _
def PSl (K : PySem.W.Frag) (r : V → Option Int → Option Int → Hp → VK → Prop) (x : PD) (lo hi : Option Int) (z : Rs) : Prop := ∀ F H vx Q, Same F H → Dp K F vx x → (∀ F' H' v, Xt F H F' H' → PRs K H F' H' v z → Q v H') → r vx lo hi H Q
theorem ej_sl {r : V → Option Int → Option Int → Hp → VK → Prop} {lo hi : Option Expr} {l h : Option Int} {p2 : Pos} (hr : SlR X r) (ha : EJ X W a ρ (.ok ρ1 (.va x))) (hl : OJ X W lo ρ1 ρ2 l) (hh : OJ X W hi ρ2 ρ3 h) (hp : PSl X.K r x l h z) : EJ X W (.Subscript a (.Slice lo hi none p2) pos) ρ (.ok ρ3 z) := by
  obtain ⟨ta, a1, a2⟩ := ha
  obtain ⟨tl, l1, l2⟩ := hl
  obtain ⟨th, h1, h2⟩ := hh
  refine ⟨_, pe_slice hr a1 l1 h1, fun F H σ Q R q => a2 F H σ _ R fun F1 H1 v1 x1 R1 q1 => l2 F1 H1 σ _ R1 fun F2 H2 x2 R2 => h2 F2 H2 σ _ R2 fun F3 H3 x3 R3 => ?_⟩
  exact hp F3 H3 v1 Q R3.fh (Dp.mono (Dp.mono q1.1 x2.ff) x3.ff) fun F' H' v t q' => (q.pull ((x1.trans x2).trans x3)).fin R3 t q'
theorem psl_list {lo hi : Option Int} : PSl X.K (rSlL X.K) (.list ds) lo hi (.ow (.lst (cutL ds lo hi))) := fun F H vx Q e hx q => by
  cases hx with
  | lst hs ha => exact ⟨_, _, rfl, Same.seq e hs, fun p np => q _ _ _ (Xt.own e np) ⟨p, _, rfl, Same.free e np, upd_same, DpAll.cut ha lo hi, np⟩⟩
theorem psl_tup {lo hi : Option Int} : PSl X.K (rSlA X.K) (.tuple ds) lo hi (.va (.tuple (cutL ds lo hi))) := fun F H vx Q e hx q => by
  cases hx with
  | @tup a vs _ hs ha =>
    refine ⟨_, _, rfl, Same.seqT e hs, fun hw => ?_, fun _ p np => ?_⟩
    · have : cutL ds lo hi = ds := by
        unfold cutL
        rw [← DpAll.len ha, hw.1, hw.2, DpAll.len ha]
        simp
      rw [this] at q
      exact q F H _ (Xt.refl e) (.tup hs ha)
    · exact q _ _ _ (Xt.frz e np) (.tup (SqT.of upd_same) (DpAll.mono (DpAll.cut ha lo hi) (Xt.frz e np).ff))
end
end Pj

set_option Elab.async false
set_option linter.all false
set_option maxRecDepth 100000
namespace Pj
open PySem PySem.Spec PyProof.Rows L2

/-! ### what a def's body may lean on -/
structure Md where
  P : Program
  w : World
  K : PySem.W.Frag
  mg : Str → Option Value
  base : Heap
abbrev md (X : Cx) : Md := ⟨X.prog, X.w, X.K, X.mg, X.base⟩
structure Ok (X : Cx) (W : WX) (lv : Nat) : Prop where
  calm : X.calm = true
  pass : PassesOwn (model X.prog X.w) X.A X.env X.xe
  takes : Takes X W
  nd : X.N.Nodup
  room : Room lv X.A
abbrev W0 : WX := fun _ _ _ _ => False
theorem Ok.blk {X : Cx} {W : WX} {lv : Nat} (C : Ok X W lv) {s : Shared} {H : Hp} {scope : Scope} {ce : Env} {fp : List Addr} : Ok (X.blk s H scope ce fp) W0 lv :=
  ⟨C.calm, PassesOwn.never, takes0, C.nd, C.room⟩

/-! ### promises -/
inductive PO where
  | ok (r : Rs)
  | ex (n : Str) (p : Option (Str × PD))
def PPost (K : PySem.W.Frag) (mg : Str → Option Value) (F H : Hp) (Q : VK) (E : XK) : PO → Prop
  | .ok r => ∀ F' H' v, Xt F H F' H' → PRs K H F' H' v r → Q v H'
  | .ex n p => ∀ F' H', Xt F H F' H' → XCond K mg F' H' n p E
/-- a def that changes nothing -/
def spP (K : PySem.W.Frag) (mg : Str → Option Value) (Mf : List PD → PO → Prop) : Sp := fun vs H Q E => ∃ F ds o, Mf ds o ∧ Same F H ∧ DpAll K F vs ds ∧ PPost K mg F H Q E o
/-- what a call leaves that has changed the thing at a alone -/
structure XtB (a : Addr) (F H F' H' : Hp) : Prop where
  ff : Same F F'
  hh : ∀ b o, H b = some o → b ≠ a → H' b = some o
  fh : Same F' H'
  nf : ∀ b o, F b = none → H b = some o → F' b = none
def BPost (K : PySem.W.Frag) (mg : Str → Option Value) (a : Addr) (F H : Hp) (Q : VK) (E : XK) (c' : Ct) : PO → Prop
  | .ok r => ∀ F' H' v u, XtB a F H F' H' → H' a = some u → CtOk K F' u c' → PRs K H F' H' v r → Q v H'
  | .ex n p => ∀ F' H' u, XtB a F H F' H' → H' a = some u → CtOk K F' u c' → XCond K mg F' H' n p E
/-- a def that changes its first argument -/
def spB (K : PySem.W.Frag) (mg : Str → Option Value) (Mf : Ct → List PD → Ct → PO → Prop) : Sp := fun vs H Q E => ∃ F a u c vs' ds c' o, vs = .ref a :: vs' ∧ Mf c ds c' o ∧ Same F H ∧ F a = none ∧ H a = some u ∧ CtOk K F u c ∧ DpAll K F vs' ds ∧ BPost K mg a F H Q E c' o
structure Def (M : Md) (n : Str) (k : Nat) (sp : Sp) : Prop where
  ex : ∃ f fd ps, M.mg n = some (.ref f) ∧ PySem.W.keepIn M.K (.ref f) = true ∧ Binds M.K fd ps [] ∧ FnOk M.P M.w M.K M.mg M.base (L2.CX M.P M.w) k f fd ps sp

section
variable {X : Cx} {W : WX} {lv k : Nat} {e : Expr} {es : List Expr} {ρ ρ1 : En} {ds : List PD} {z : Rs} {n : Str} {p pos : Pos}
theorem ej_callAny {Mf : List PD → PO → Prop} {o : PO} (C : Ok X W lv) (D : Def (md X) n k (spP X.K X.mg Mf)) (ha : AJ X W (e :: es) ρ ρ1 ds) (hM : Mf ds o) (hk : k ≤ lv) (hg : Gl X n)
    (hdb : (n == ("__debug__" : Str)) = false) (he : starEach (e :: es) X.env = (false, eval e X.env) :: starEach es X.env) (hpl : (backTo pos (starEach es X.env)).any (·.1) = false) :
    EJ X W (.Call (.Name n p) (e :: es) [] pos) ρ (match o with | .ok r => .ok ρ1 r | .ex n p => .ex ρ1 n p) := by
  obtain ⟨f, fd, ps, h1, h2, h3, h4⟩ := D.ex
  obtain ⟨t, a1, a2⟩ := ha
  refine ⟨_, pe_callS h4 (C.room.mono hk) hg h1 h2 h3 (fun σ => passAt C.takes σ) a1 hdb he hpl, fun F H σ Q R h => a2 F H σ _ R fun F1 H1 vs x1 R1 q1 => ⟨F1, ds, o, hM, R1.fh, q1, ?_⟩⟩
  cases o with
  | ok r => exact fun F' H' v t q => (h.pull x1).fin R1 t q
  | ex m q =>
    intro F' H' t
    obtain ⟨R2, x2⟩ := R1.ext t
    exact h F' H' (x1.trans x2) R2
theorem ej_call {Mf : List PD → PO → Prop} (C : Ok X W lv) (D : Def (md X) n k (spP X.K X.mg Mf)) (ha : AJ X W (e :: es) ρ ρ1 ds) (hM : Mf ds (.ok z)) (hk : k ≤ lv := by decide) (hg : Gl X n := by rfl)
    (hdb : (n == ("__debug__" : Str)) = false := by decide) (he : starEach (e :: es) X.env = (false, eval e X.env) :: starEach es X.env := by rfl) (hpl : (backTo pos (starEach es X.env)).any (·.1) = false := by rfl) :
    EJ X W (.Call (.Name n p) (e :: es) [] pos) ρ (.ok ρ1 z) := ej_callAny (o := .ok z) C D ha hM hk hg hdb he hpl
theorem ej_callX {Mf : List PD → PO → Prop} {m : Str} {q : Option (Str × PD)} (C : Ok X W lv) (D : Def (md X) n k (spP X.K X.mg Mf)) (ha : AJ X W (e :: es) ρ ρ1 ds) (hM : Mf ds (.ex m q)) (hk : k ≤ lv := by decide) (hg : Gl X n := by rfl)
    (hdb : (n == ("__debug__" : Str)) = false := by decide) (he : starEach (e :: es) X.env = (false, eval e X.env) :: starEach es X.env := by rfl) (hpl : (backTo pos (starEach es X.env)).any (·.1) = false := by rfl) :
    EJ X W (.Call (.Name n p) (e :: es) [] pos) ρ (.ex ρ1 m q) := ej_callAny (o := .ex m q) C D ha hM hk hg hdb he hpl
end

/-! ### a slot stored -/
section
variable {K : PySem.W.Frag} {F H : Hp} {σ : L2.St} {ρ : En}
theorem OwAt.set_ne {i j : Nat} {a : Addr} {s : Sl} {v : Option V} (h : OwAt (σ.set i v) (ρ.set i s) j a) (e : j ≠ i) : OwAt σ ρ j a := by
  obtain ⟨⟨s', c, h1, h2⟩, h3⟩ := h
  rw [List.getElem?_set_ne (Ne.symm e)] at h1 h3
  exact ⟨⟨s', c, h1, h2⟩, h3⟩
def Rs.sl : Rs → Sl
  | .va d => .va d
  | .ow c => .ow c
theorem RE.set {H0 : Hp} {i : Nat} {v : V} {r : Rs} (R : RE K F H σ ρ) (hi : i < ρ.length) (q : RsOk K H0 F H σ ρ v r) :
    RE K F H (σ.set i (some v)) (ρ.set i r.sl) ∧ ∀ j a, OwAt (σ.set i (some v)) (ρ.set i r.sl) j a → OwAt σ ρ j a ∨ H0 a = none := by
  have hiσ : i < σ.length := by rw [R.len]; exact hi
  have self : ∀ a, OwAt (σ.set i (some v)) (ρ.set i r.sl) i a → v = .ref a ∧ ∃ c, r = .ow c := fun a ⟨⟨s, c, h1, h2⟩, h3⟩ => by
    rw [List.getElem?_set_self hi] at h1
    rw [List.getElem?_set_self hiσ] at h3
    cases h3
    refine ⟨rfl, ?_⟩
    cases r with
    | va d => cases h1; cases h2
    | ow c => exact ⟨c, rfl⟩
  refine ⟨⟨by rw [List.length_set, List.length_set]; exact R.len, R.fh, fun j d h => ?_, fun j s c h1 h2 => ?_, fun j k a h1 h2 => ?_⟩, fun j a h => ?_⟩
  · by_cases e : j = i
    · subst e
      rw [List.getElem?_set_self hi] at h
      rw [List.getElem?_set_self hiσ]
      cases r with
      | va d' => cases h; exact ⟨v, rfl, q.1⟩
      | ow c => cases h
    · rw [List.getElem?_set_ne (Ne.symm e)] at h ⊢
      exact R.va j d h
  · by_cases e : j = i
    · subst e
      rw [List.getElem?_set_self hi] at h1
      rw [List.getElem?_set_self hiσ]
      cases r with
      | va d' => cases h1; cases h2
      | ow c' =>
        cases h1
        cases h2
        obtain ⟨a, u, rfl, f1, f2, f3, _⟩ := q.1
        exact ⟨a, u, rfl, trivial, f1, f2, f3⟩
    · rw [List.getElem?_set_ne (Ne.symm e)] at h1 ⊢
      exact R.ob j s c h1 h2
  · by_cases e : j = i
    · by_cases e' : k = i
      · rw [e, e']
      · subst e
        obtain ⟨z, c, zc⟩ := self a h1
        exact absurd (h2.set_ne e') (q.2 c a zc z k)
    · by_cases e' : k = i
      · subst e'
        obtain ⟨z, c, zc⟩ := self a h2
        exact absurd (h1.set_ne e) (q.2 c a zc z j)
      · exact R.inj j k a (h1.set_ne e) (h2.set_ne e')
  · by_cases e : j = i
    · subst e
      obtain ⟨z, c, zc⟩ := self a h
      subst zc
      obtain ⟨a', u, z', f1, f2, f3, f4⟩ := q.1
      rw [z'] at z
      cases z
      exact .inr f4
    · exact .inl (h.set_ne e)
theorem Ext.set {F0 H0 : Hp} {σ0 : L2.St} {ρ0 : En} {i : Nat} {v : V} {r : Rs} (x : Ext σ0 ρ0 F0 H0 σ ρ F H) (h : ∀ j a, OwAt (σ.set i (some v)) (ρ.set i r.sl) j a → OwAt σ ρ j a ∨ H0 a = none) : Ext σ0 ρ0 F0 H0 (σ.set i (some v)) (ρ.set i r.sl) F H := by
  refine ⟨x.ff, x.hh, x.nf, fun j a q => ?_, x.tr⟩
  rcases h j a q with z | z
  · exact x.ow j a z
  · exact .inr z
/-- slots forgotten -/
def Le (ρ' ρ : En) : Prop := ρ'.length = ρ.length ∧ ∀ (i : Nat) (s : Sl), ρ'[i]? = some s → s = Sl.un ∨ ρ[i]? = some s
theorem Le.refl : Le ρ ρ := ⟨rfl, fun _ _ h => .inr h⟩
theorem Le.ow {ρ' : En} (l : Le ρ' ρ) {i : Nat} {a : Addr} (h : OwAt σ ρ' i a) : OwAt σ ρ i a := by
  obtain ⟨⟨s, c, h1, h2⟩, h3⟩ := h
  rcases l.2 i s h1 with z | z
  · subst z; cases h2
  · exact ⟨⟨s, c, z, h2⟩, h3⟩
theorem RE.le {ρ' : En} (R : RE K F H σ ρ) (l : Le ρ' ρ) : RE K F H σ ρ' := by
  refine ⟨R.len.trans l.1.symm, R.fh, fun i d h => ?_, fun i s c h1 h2 => ?_, fun i j a h1 h2 => R.inj i j a (l.ow h1) (l.ow h2)⟩
  · rcases l.2 i _ h with z | z
    · cases z
    · exact R.va i d z
  · rcases l.2 i _ h1 with z | z
    · subst z; cases h2
    · exact R.ob i s c z h2
theorem Ext.le {F0 H0 : Hp} {σ0 : L2.St} {ρ0 ρ' : En} (x : Ext σ0 ρ0 F0 H0 σ ρ F H) (l : Le ρ' ρ) : Ext σ0 ρ0 F0 H0 σ ρ' F H :=
  ⟨x.ff, x.hh, x.nf, fun i a h => x.ow i a (l.ow h), x.tr⟩
/-- .. the slots of a block's own names -/
theorem re_wipe {σ' : L2.St} {ρ' : En} (R : RE K F H σ ρ) (hl : σ'.length = σ.length) (hl' : ρ'.length = ρ.length) (h : ∀ i : Nat, (σ'[i]? = σ[i]? ∧ ρ'[i]? = ρ[i]?) ∨ ∀ s : Sl, ρ'[i]? = some s → s = Sl.un) : RE K F H σ' ρ' := by
  have ow : ∀ i a, OwAt σ' ρ' i a → OwAt σ ρ i a := fun i a ⟨⟨s, c, h1, h2⟩, h3⟩ => by
    rcases h i with ⟨z1, z2⟩ | z
    · exact ⟨⟨s, c, z2 ▸ h1, h2⟩, z1 ▸ h3⟩
    · rw [z s h1] at h2; cases h2
  refine ⟨by rw [hl, hl', R.len], R.fh, fun i d e => ?_, fun i s c h1 h2 => ?_, fun i j a h1 h2 => R.inj i j a (ow i a h1) (ow j a h2)⟩
  · rcases h i with ⟨z1, z2⟩ | z
    · rw [z1]; exact R.va i d (z2 ▸ e)
    · cases z _ e
  · rcases h i with ⟨z1, z2⟩ | z
    · rw [z1]; exact R.ob i s c (z2 ▸ h1) h2
    · rw [z s h1] at h2; cases h2
end

/-! ### statements -/
section
variable {X : Cx} {W : WX} {lv : Nat} {e a b c : Expr} {es : List Expr} {ρ ρ1 ρ2 ρ3 : En} {d x y : PD} {ds : List PD} {z : Rs} {n : Str} {pos p : Pos} {st : Stmt} {sts : List Stmt} {o : SO}
theorem bj_nil : BJ X W [] ρ (.nx ρ) := ⟨_, pss_nil, fun F H σ D R h => h F H σ Ext.refl R⟩
theorem bj_one (h : SJ X W st ρ o) : BJ X W [st] ρ o := by
  obtain ⟨t, h1, h2⟩ := h
  exact ⟨t, pss_one h1, h2⟩
theorem bj_cons (h : SJ X W st ρ (.nx ρ1)) (g : BJ X W sts ρ1 o) : BJ X W (st :: sts) ρ o := by
  obtain ⟨t, h1, h2⟩ := h
  obtain ⟨u, g1, g2⟩ := g
  exact ⟨_, pss_cons h1 g1, fun F H σ D R q => h2 F H σ _ R fun F1 H1 σ1 x1 R1 => g2 F1 H1 σ1 D R1 (q.pull x1)⟩
/-- a statement that does not go on -/
def SO.out : SO → Prop
  | .nx _ => False
  | _ => True
theorem bj_out (h : SJ X W st ρ o) (ho : o.out := by trivial) : BJ X W (st :: sts) ρ o := by
  obtain ⟨t, h1, h2⟩ := h
  refine ⟨_, pss_cons h1 (pss_never (sts := sts)), fun F H σ D R q => h2 F H σ _ R ?_⟩
  cases o with
  | nx _ => exact ho.elim
  | rt _ _ => exact q
  | bk _ => exact q
  | ct _ => exact q
  | ex _ _ _ => exact q
theorem BJ.le (h : BJ X W sts ρ (.nx ρ1)) (l : Le ρ2 ρ1) : BJ X W sts ρ (.nx ρ2) := by
  obtain ⟨t, h1, h2⟩ := h
  exact ⟨t, h1, fun F H σ D R q => h2 F H σ D R fun F' H' σ' x R' => q F' H' σ' (x.le l) (R'.le l)⟩
theorem SJ.le (h : SJ X W st ρ (.nx ρ1)) (l : Le ρ2 ρ1) : SJ X W st ρ (.nx ρ2) := by
  obtain ⟨t, h1, h2⟩ := h
  exact ⟨t, h1, fun F H σ D R q => h2 F H σ D R fun F' H' σ' x R' => q F' H' σ' (x.le l) (R'.le l)⟩
theorem sj_doc {j : Nat} {s : Str} {pos' : Pos} : SJ X W (.Expr (.Constant (.str s) j pos) pos') ρ (.nx ρ) := ⟨_, ps_doc, fun F H σ D R h => h F H σ Ext.refl R⟩
theorem sj_pass : SJ X W (.Pass pos) ρ (.nx ρ) := ⟨_, ps_pass, fun F H σ D R h => h F H σ Ext.refl R⟩
/-- name = e -/
theorem sj_set (i : Nat) {pos' : Pos} (C : Ok X W lv) (he : EJ X W e ρ (.ok ρ1 z)) (hi : X.N[i]? = some n := by rfl) (hlt : i < ρ1.length := by exact Nat.le_of_ble_eq_true rfl) (hx : Loc X.env.scope n := by first | exact Or.inl rfl | exact Or.inr rfl)
    (hs : swapsWith e (some (.Name n pos')) pos.line X.env = pure false := by rfl) (hf : X.fn n = true ∨ X.env.scope.names.lookup n = some .local := by first | exact .inl rfl | exact .inr rfl) :
    SJ X W (.Assign [.Name n pos'] e pos) ρ (.nx (ρ1.set i z.sl)) := by
  obtain ⟨t, h1, h2⟩ := he
  refine ⟨_, ps_set C.nd hi hx h1 hs hf, fun F H σ D R q => h2 F H σ _ R fun F1 H1 v x1 R1 q1 => ?_⟩
  obtain ⟨R2, g⟩ := R1.set hlt q1
  exact q F1 H1 _ (x1.set g) R2
theorem sj_setX (i : Nat) {pos' : Pos} {m : Str} {q : Option (Str × PD)} (C : Ok X W lv) (he : EJ X W e ρ (.ex ρ1 m q)) (hi : X.N[i]? = some n := by rfl) (hx : Loc X.env.scope n := by first | exact Or.inl rfl | exact Or.inr rfl)
    (hs : swapsWith e (some (.Name n pos')) pos.line X.env = pure false := by rfl) (hf : X.fn n = true ∨ X.env.scope.names.lookup n = some .local := by first | exact .inl rfl | exact .inr rfl) :
    SJ X W (.Assign [.Name n pos'] e pos) ρ (.ex ρ1 m q) := by
  obtain ⟨t, h1, h2⟩ := he
  exact ⟨_, ps_set C.nd hi hx h1 hs hf, fun F H σ D R q => h2 F H σ _ R fun F' H' x R' => q F' H' σ x R'⟩
theorem sj_ret (he : EJ X W e ρ (.ok ρ1 z)) : SJ X W (.Return (some e) pos) ρ (.rt ρ1 z) := by
  obtain ⟨t, h1, h2⟩ := he
  exact ⟨_, ps_ret h1, fun F H σ D R q => h2 F H σ _ R fun F1 H1 v x1 R1 q1 => q F1 H1 σ v x1 R1 q1⟩
theorem sj_retX {m : Str} {q : Option (Str × PD)} (he : EJ X W e ρ (.ex ρ1 m q)) : SJ X W (.Return (some e) pos) ρ (.ex ρ1 m q) := by
  obtain ⟨t, h1, h2⟩ := he
  exact ⟨_, ps_ret h1, fun F H σ D R q => h2 F H σ _ R fun F1 H1 x1 R1 => q F1 H1 σ x1 R1⟩
theorem sj_retN : SJ X W (.Return none pos) ρ (.rt ρ (.va .none)) := ⟨_, ps_retN, fun F H σ D R q => q F H σ .non Ext.refl R ⟨.non, fun _ _ z => nomatch z⟩⟩
theorem sj_expr (he : EJ X W e ρ (.ok ρ1 z)) (hs : swapsWith e none pos.line X.env = pure false := by rfl) : SJ X W (.Expr e pos) ρ (.nx ρ1) := by
  obtain ⟨t, h1, h2⟩ := he
  exact ⟨_, ps_expr h1 hs, fun F H σ D R q => h2 F H σ _ R fun F1 H1 v x1 R1 q1 => q F1 H1 σ x1 R1⟩
theorem sj_exprX {m : Str} {q : Option (Str × PD)} (he : EJ X W e ρ (.ex ρ1 m q)) (hs : swapsWith e none pos.line X.env = pure false := by rfl) : SJ X W (.Expr e pos) ρ (.ex ρ1 m q) := by
  obtain ⟨t, h1, h2⟩ := he
  exact ⟨_, ps_expr h1 hs, fun F H σ D R q => h2 F H σ _ R fun F1 H1 x1 R1 => q F1 H1 σ x1 R1⟩
theorem sj_if {k : Bool} {ta tb : List Stmt} (hc : TJ X W c ρ ρ1 k) (h1 : k = true → BJ X W ta ρ1 o) (h2 : k = false → BJ X W tb ρ1 o) : SJ X W (.If c ta tb pos) ρ o := by
  obtain ⟨t, c1, c2⟩ := hc
  cases k with
  | true =>
    obtain ⟨u, g1, g2⟩ := h1 rfl
    refine ⟨_, ps_if c1 g1 (pss_never (sts := tb)), fun F H σ D R q => c2 F H σ _ R fun F1 H1 x1 R1 => ?_⟩
    rw [if_pos rfl]
    exact g2 F1 H1 σ D R1 (q.pull x1)
  | false =>
    obtain ⟨u, g1, g2⟩ := h2 rfl
    refine ⟨_, ps_if c1 (pss_never (sts := ta)) g1, fun F H σ D R q => c2 F H σ _ R fun F1 H1 x1 R1 => ?_⟩
    rw [if_neg Bool.false_ne_true]
    exact g2 F1 H1 σ D R1 (q.pull x1)
/-- if .. : (a way out), then the rest -/
theorem bj_if {k : Bool} {ta tb : List Stmt} {o1 : SO} (hc : TJ X W c ρ ρ1 k) (h1 : k = true → BJ X W ta ρ1 o1 ∧ (o1 = .nx ρ2 ∧ BJ X W sts ρ2 o ∨ o1 = o ∧ o.out)) (h2 : k = false → BJ X W tb ρ1 (.nx ρ3) ∧ BJ X W sts ρ3 o) : BJ X W (.If c ta tb pos :: sts) ρ o := by
  cases k with
  | true =>
    obtain ⟨g1, ⟨rfl, g2⟩ | ⟨rfl, g2⟩⟩ := h1 rfl
    · exact bj_cons (sj_if hc (fun _ => g1) (fun z => nomatch z)) g2
    · exact bj_out (sj_if hc (fun _ => g1) (fun z => nomatch z)) g2
  | false =>
    obtain ⟨g1, g2⟩ := h2 rfl
    exact bj_cons (sj_if hc (fun z => nomatch z) (fun _ => g1)) g2
end
end Pj

set_option Elab.async false
set_option linter.all false
set_option maxRecDepth 100000
namespace Pj
open PySem PySem.Spec PyProof.Rows L2

/-! ### targets -/
inductive TgS where
  | one (i : Nat)
  | tup (ts : List TgS)
mutual
def gOf (K : PySem.W.Frag) : TgS → TG
  | .one i => gName i
  | .tup ts => gTup K ts.length (gsOf K ts)
def gsOf (K : PySem.W.Frag) : List TgS → TGs
  | [] => gNil
  | t :: ts => gCons (gOf K t) (gsOf K ts)
end
mutual
def tgSet : TgS → PD → En → Option En
  | .one i, d, ρ => if i < ρ.length then some (ρ.set i (.va d)) else none
  | .tup ts, .tuple ds, ρ => tgSets ts ds ρ
  | .tup _, _, _ => none
def tgSets : List TgS → List PD → En → Option En
  | [], [], ρ => some ρ
  | t :: ts, d :: ds, ρ => match tgSet t d ρ with
    | some ρ' => tgSets ts ds ρ'
    | none => none
  | _, _, _ => none
end
mutual
def tgVars : TgS → List Nat
  | .one i => [i]
  | .tup ts => tgsVars ts
def tgsVars : List TgS → List Nat
  | [] => []
  | t :: ts => tgVars t ++ tgsVars ts
end
section
variable {K : PySem.W.Frag} {F H : Hp}
theorem tgSets_len : ∀ (ts : List TgS) (ds : List PD) (ρ ρ' : En), tgSets ts ds ρ = some ρ' → ts.length = ds.length
  | [], [], _, _, _ => rfl
  | [], _ :: _, _, _, h => by unfold tgSets at h; cases h
  | _ :: _, [], _, _, h => by unfold tgSets at h; cases h
  | t :: ts, d :: ds, ρ, ρ', h => by
    unfold tgSets at h
    split at h
    · rw [List.length_cons, List.length_cons, tgSets_len ts ds _ _ h]
    · cases h
/-- the store done -/
structure Stored (K : PySem.W.Frag) (F H : Hp) (σ : L2.St) (ρ : En) (vs : List Nat) (σ' : L2.St) (ρ' : En) : Prop where
  re : RE K F H σ' ρ'
  ext : Ext σ ρ F H σ' ρ' F H
  len : σ'.length = σ.length
  out : ∀ i, i ∉ vs → σ'[i]? = σ[i]? ∧ ρ'[i]? = ρ[i]?
mutual
theorem tg_run : ∀ (t : TgS) (d : PD) (ρ ρ' : En) (v : V) (σ : L2.St), tgSet t d ρ = some ρ' → RE K F H σ ρ → Dp K F v d → ∃ σ', Stored K F H σ ρ (tgVars t) σ' ρ' ∧ ∀ Q : L2.St → Hp → Prop, Q σ' H → gOf K t v σ H Q
  | .one i, d, ρ, ρ', v, σ, h, R, r => by
    unfold tgSet at h
    split at h
    · rename_i hi
      cases h
      obtain ⟨R2, g⟩ := R.set (H0 := H) (r := .va d) hi ⟨r, fun _ _ z => nomatch z⟩
      refine ⟨_, ⟨R2, Ext.refl.set g, by rw [List.length_set], fun j hj => ?_⟩, fun Q q => ?_⟩
      · have ne : i ≠ j := fun e => hj (by unfold tgVars; simp [e])
        exact ⟨List.getElem?_set_ne ne, List.getElem?_set_ne ne⟩
      · unfold gOf gName
        exact q
    · cases h
  | .tup ts, d, ρ, ρ', v, σ, h, R, r => by
    cases d with
    | tuple ds =>
      unfold tgSet at h
      cases r with
      | @tup a vs _ hs ha =>
        obtain ⟨σ', S, q⟩ := tgs_run ts ds ρ ρ' vs σ h R ha
        refine ⟨σ', by unfold tgVars; exact S, fun Q z => ?_⟩
        unfold gOf gTup
        exact ⟨a, vs, rfl, Same.seqT R.fh hs, by rw [DpAll.len ha, tgSets_len ts ds ρ ρ' h], q Q z⟩
    | _ => unfold tgSet at h; cases h
theorem tgs_run : ∀ (ts : List TgS) (ds : List PD) (ρ ρ' : En) (vs : List V) (σ : L2.St), tgSets ts ds ρ = some ρ' → RE K F H σ ρ → DpAll K F vs ds → ∃ σ', Stored K F H σ ρ (tgsVars ts) σ' ρ' ∧ ∀ Q : L2.St → Hp → Prop, Q σ' H → gsOf K ts vs σ H Q
  | [], [], ρ, ρ', vs, σ, h, R, r => by
    unfold tgSets at h
    cases h
    cases r
    refine ⟨σ, ⟨R, Ext.refl, rfl, fun _ _ => ⟨rfl, rfl⟩⟩, fun Q z => ?_⟩
    unfold gsOf gNil
    exact ⟨rfl, z⟩
  | [], _ :: _, _, _, _, _, h, _, _ => by unfold tgSets at h; cases h
  | _ :: _, [], _, _, _, _, h, _, _ => by unfold tgSets at h; cases h
  | t :: ts, d :: ds, ρ, ρ', vs, σ, h, R, r => by
    unfold tgSets at h
    split at h
    · rename_i ρ1 h1
      cases r with
      | cons r1 r2 =>
        obtain ⟨σ1, S1, q1⟩ := tg_run t d ρ ρ1 _ σ h1 R r1
        obtain ⟨σ2, S2, q2⟩ := tgs_run ts ds ρ1 ρ' _ σ1 h S1.re r2
        refine ⟨σ2, ⟨S2.re, S1.ext.trans S2.ext, S2.len.trans S1.len, fun i hi => ?_⟩, fun Q z => ?_⟩
        · unfold tgsVars at hi
          rw [List.mem_append, not_or] at hi
          have a1 := S1.out i hi.1
          have a2 := S2.out i hi.2
          exact ⟨a2.1.trans a1.1, a2.2.trans a1.2⟩
        · unfold gsOf gCons
          exact ⟨_, _, rfl, q1 _ (q2 Q z)⟩
    · cases h
end
end
section
variable {X : Cx} {W : WX} {lv : Nat} {n : Str} {pos : Pos} {es : List Expr} {e tg : Expr} {ρ ρ1 ρ2 : En} {d : PD} {o : SO} {body : List Stmt}
theorem pg1 (i : Nat) (hN : X.N.Nodup) (hi : X.N[i]? = some n := by rfl) (hx : Loc X.env.scope n := by first | exact Or.inl rfl | exact Or.inr rfl) (hf : X.fn n = true ∨ X.env.scope.names.lookup n = some .local := by first | exact .inl rfl | exact .inr rfl) :
    PG X (.Name n pos) (gOf X.K (.one i)) := by
  unfold gOf
  exact pg_name hN hi hx hf
theorem pgT {ts : List TgS} {k : Nat} (hc : X.calm = true) (h : PGs X es (gsOf X.K ts)) (hn : (assignEach es X.env).length = ts.length := by rfl) (hst : (assignEach es X.env).findIdx? (·.1) = none := by rfl) : PG X (.Tuple es k pos) (gOf X.K (.tup ts)) := by
  unfold gOf
  exact pg_tup hc h hn hst
theorem pgs0 : PGs X [] (gsOf X.K []) := by
  unfold gsOf
  exact pgs_nil
theorem pgsC {t : TgS} {ts : List TgS} (h1 : PG X e (gOf X.K t)) (h2 : PGs X es (gsOf X.K ts)) (hs : (assignEach (e :: es) X.env).map (·.2) = assign e X.env :: (assignEach es X.env).map (·.2) := by rfl) : PGs X (e :: es) (gsOf X.K (t :: ts)) := by
  unfold gsOf
  exact pgs_cons h1 h2 hs
theorem sj_asg {sh : TgS} (he : EJ X W e ρ (.ok ρ1 (.va d))) (hg : PG X tg (gOf X.K sh)) (hs : tgSet sh d ρ1 = some ρ2 := by rfl) (hsw : swapsWithSole [tg] e pos.line X.env = pure false := by rfl) (hw : swappedStores [tg] e X.env = pure none := by rfl)
    (h1 : (assignEach [tg] X.env).map (·.2) = [assign tg X.env] := by rfl) : SJ X W (.Assign [tg] e pos) ρ (.nx ρ2) := by
  obtain ⟨t, a1, a2⟩ := he
  refine ⟨_, ps_asg a1 hg hsw hw h1, fun F H σ D R q => a2 F H σ _ R fun F1 H1 v x1 R1 q1 => ?_⟩
  obtain ⟨σ', S, g⟩ := tg_run sh d ρ1 ρ2 v σ hs R1 q1.1
  exact g _ (q F1 H1 σ' (x1.trans S.ext) S.re)
/-- a, b = x, y -/
theorem sj_par (i j : Nat) {x y : Str} {a b : Expr} {u v : PD} {px py pt : Pos} {kt k2 pt2} (C : Ok X W lv) (ha : AJ X W [a, b] ρ ρ1 [u, v]) (hi : X.N[i]? = some x := by rfl) (hj : X.N[j]? = some y := by rfl) (hij : i ≠ j := by decide)
    (hx : X.env.scope.names.lookup x = some .local := by rfl) (hy : X.env.scope.names.lookup y = some .local := by rfl) (hli : i < ρ1.length := by exact Nat.le_of_ble_eq_true rfl) (hlj : j < ρ1.length := by exact Nat.le_of_ble_eq_true rfl)
    (hw : swappedStores [.Tuple [.Name x px, .Name y py] kt pt] (.Tuple [a, b] k2 pt2) X.env = pure (some [x, y]) := by rfl)
    (hs : swapsWithSole [.Tuple [.Name x px, .Name y py] kt pt] (.Tuple [a, b] k2 pt2) pos.line X.env = pure false := by rfl) : SJ X W (.Assign [.Tuple [.Name x px, .Name y py] kt pt] (.Tuple [a, b] k2 pt2) pos) ρ (.nx ((ρ1.set i (.va u)).set j (.va v))) := by
  obtain ⟨t, a1, a2⟩ := ha
  refine ⟨_, ps_par C.calm C.nd hi hj hij hx hy a1 hw hs, fun F H σ D R q => a2 F H σ _ R fun F1 H1 vs x1 R1 q1 => ?_⟩
  cases q1 with
  | cons r1 q1 =>
    cases q1 with
    | cons r2 q1 =>
      cases q1
      obtain ⟨R2, g2⟩ := R1.set (H0 := H) (r := .va u) hli ⟨r1, fun _ _ z => nomatch z⟩
      obtain ⟨R3, g3⟩ := R2.set (H0 := H) (r := .va v) (i := j) (by rw [List.length_set]; exact hlj) ⟨r2, fun _ _ z => nomatch z⟩
      exact ⟨_, _, rfl, q F1 H1 _ ((x1.set g2).set g3) R3⟩

/-! ### what is walked -/
structure Wk (K : PySem.W.Frag) (F0 : Hp) (J : It) (items : List PD) : Prop where
  ex : ∃ G : Hp → Prop, (∀ F H, Same F0 F → Same F H → G H) ∧ (∀ i H, i < items.length → G H → J.go i H) ∧ (∀ H, G H → J.stop items.length H) ∧
    ∀ i d F H x H', items[i]? = some d → Same F0 F → Same F H → J.yld i H x H' → ∃ F', Xt F H F' H' ∧ Dp K F' x d
def ItJ (X : Cx) (W : WX) (tg iter : Expr) (ρ ρ1 : En) (items : List PD) : Prop := ∃ wi, PI X tg iter wi ∧ ∀ F H σ R, RE X.K F H σ ρ →
  (∀ F1 H1 J, Ext σ ρ F H σ ρ1 F1 H1 → RE X.K F1 H1 σ ρ1 → Wk X.K F1 J items → R J H1) → wi σ H R
theorem wk_yat {K : PySem.W.Frag} {F0 : Hp} {J : It} {xs : List V} {ds : List PD} {G : Hp → Prop} (w : Walk J xs.length G (YAt xs)) (h : DpAll K F0 xs ds) (hG : ∀ F H, Same F0 F → Same F H → G H) : Wk K F0 J ds := by
  refine ⟨⟨G, hG, fun i H hi g => w.goes i H (by rw [DpAll.len h]; exact hi) g, fun H g => by rw [← DpAll.len h]; exact w.stops H g, fun i d F H x H' e s1 s2 y => ?_⟩⟩
  have hi : i < xs.length := by rw [DpAll.len h]; exact (List.getElem?_eq_some_iff.mp e).1
  obtain ⟨e1, e2⟩ := w.yields i H x H' hi (hG F H s1 s2) y
  subst e1
  obtain ⟨d', q1, q2⟩ := DpAll.at h e2
  rw [e] at q1
  cases q1
  exact ⟨F, Xt.refl s2, Dp.mono q2 s1⟩
theorem it_list {ds : List PD} (h : EJ X W e ρ (.ok ρ1 (.va (.list ds)))) : ItJ X W tg e ρ ρ1 ds := by
  obtain ⟨t, h1, h2⟩ := h
  refine ⟨_, pi_list h1, fun F H σ R RR q => h2 F H σ _ RR fun F1 H1 v x1 R1 q1 => ?_⟩
  cases q1.1 with
  | lst hs ha => exact ⟨_, rfl, ⟨_, Same.seq R1.fh hs⟩, q F1 H1 _ x1 R1 (wk_yat walk_list ha fun F H s1 s2 => Same.seq s2 (Same.seq s1 hs))⟩
theorem it_tup {ds : List PD} (h : EJ X W e ρ (.ok ρ1 (.va (.tuple ds)))) : ItJ X W tg e ρ ρ1 ds := by
  obtain ⟨t, h1, h2⟩ := h
  refine ⟨_, pi_tup h1, fun F H σ R RR q => h2 F H σ _ RR fun F1 H1 v x1 R1 q1 => ?_⟩
  cases q1.1 with
  | tup hs ha => exact ⟨_, rfl, ⟨_, Same.seqT R1.fh hs⟩, q F1 H1 _ x1 R1 (wk_yat walk_tup ha fun F H s1 s2 => Same.seqT s2 (Same.seqT s1 hs))⟩
def rngD (lo : Int) (n : Nat) : List PD := (List.range n).map fun k => .int (lo + (k : Nat))
theorem rngD_get {lo : Int} {n i : Nat} {d : PD} (h : (rngD lo n)[i]? = some d) : d = .int (lo + i) ∧ i < n := by
  unfold rngD at h
  rw [List.getElem?_map] at h
  obtain ⟨k, h1, h2⟩ := Option.map_eq_some_iff.mp h
  have hi := (List.getElem?_eq_some_iff.mp h1).1
  rw [List.length_range] at hi
  rw [List.getElem?_range hi] at h1
  cases h1
  exact ⟨h2.symm, hi⟩
theorem wk_range {K : PySem.W.Frag} {F0 : Hp} {lo : Int} {n : Nat} : Wk K F0 (Itr lo n) (rngD lo n) := by
  refine ⟨⟨fun _ => True, fun _ _ _ _ => trivial, fun i H hi _ => ?_, fun H _ => ?_, fun i d F H x H' e s1 s2 y => ?_⟩⟩
  · exact (show i < n by simpa [rngD] using hi)
  · exact (show n ≤ (rngD lo n).length by simp [rngD])
  · obtain ⟨e1, e2⟩ := y
    obtain ⟨rfl, _⟩ := rngD_get e
    subst e1
    subst e2
    exact ⟨F, Xt.refl s2, .int _⟩
theorem it_rng1 {a : Expr} {j : Int} {p : Pos} (h : AJ X W [a] ρ ρ1 [.int j]) (h1 : -(2 ^ 62) ≤ j ∧ j < 2 ^ 62) (hm : X.mg "range" = none) (hg : Gl X "range" := by rfl) (hs : starEach [a] X.env = [(false, eval a X.env)] := by rfl) :
    ItJ X W tg (.Call (.Name "range" p) [a] [] pos) ρ ρ1 (rngD 0 j.toNat) := by
  obtain ⟨t, a1, a2⟩ := h
  refine ⟨_, pi_range1 hg hm a1 hs, fun F H σ R RR q => a2 F H σ _ RR fun F1 H1 vs x1 R1 q1 => ?_⟩
  cases q1 with
  | cons r q1 =>
    cases q1
    cases r
    exact ⟨j, rfl, h1.1, h1.2, q F1 H1 _ x1 R1 wk_range⟩
theorem it_rng2 {a b : Expr} {i j : Int} {p : Pos} (h : AJ X W [a, b] ρ ρ1 [.int i, .int j]) (h1 : -(2 ^ 62) ≤ i ∧ i < 2 ^ 62 ∧ -(2 ^ 62) ≤ j ∧ j < 2 ^ 62) (hm : X.mg "range" = none) (hg : Gl X "range" := by rfl)
    (hs : starEach [a, b] X.env = [(false, eval a X.env), (false, eval b X.env)] := by rfl) (hs2 : starEach [b] X.env = [(false, eval b X.env)] := by rfl) :
    ItJ X W tg (.Call (.Name "range" p) [a, b] [] pos) ρ ρ1 (rngD i (j - i).toNat) := by
  obtain ⟨t, a1, a2⟩ := h
  refine ⟨_, pi_range2 hg hm a1 hs hs2, fun F H σ R RR q => a2 F H σ _ RR fun F1 H1 vs x1 R1 q1 => ?_⟩
  cases q1 with
  | cons r q1 =>
    cases r
    cases q1 with
    | cons r q1 =>
      cases q1
      cases r
      exact ⟨i, j, rfl, h1, q F1 H1 _ x1 R1 wk_range⟩

/-! ### for -/
inductive ForJ (X : Cx) (W : WX) (sh : TgS) (body : List Stmt) : List PD → En → SO → Prop where
  | nil {ρ : En} : ForJ X W sh body [] ρ (.nx ρ)
  | nx {x : PD} {xs : List PD} {ρ ρt ρ1 : En} {o : SO} : tgSet sh x ρ = some ρt → BJ X W body ρt (.nx ρ1) → ForJ X W sh body xs ρ1 o → ForJ X W sh body (x :: xs) ρ o
  | ct {x : PD} {xs : List PD} {ρ ρt ρ1 : En} {o : SO} : tgSet sh x ρ = some ρt → BJ X W body ρt (.ct ρ1) → ForJ X W sh body xs ρ1 o → ForJ X W sh body (x :: xs) ρ o
  | bk {x : PD} {xs : List PD} {ρ ρt ρ1 : En} : tgSet sh x ρ = some ρt → BJ X W body ρt (.bk ρ1) → ForJ X W sh body (x :: xs) ρ (.nx ρ1)
  | rt {x : PD} {xs : List PD} {ρ ρt ρ1 : En} {r : Rs} : tgSet sh x ρ = some ρt → BJ X W body ρt (.rt ρ1 r) → ForJ X W sh body (x :: xs) ρ (.rt ρ1 r)
  | ex {x : PD} {xs : List PD} {ρ ρt ρ1 : En} {n : Str} {p : Option (Str × PD)} : tgSet sh x ρ = some ρt → BJ X W body ρt (.ex ρ1 n p) → ForJ X W sh body (x :: xs) ρ (.ex ρ1 n p)
/-- the reading that serves every turn -/
def tBJ (X : Cx) (W : WX) (body : List Stmt) : TS := fun D σ H => ∃ F ρ o, BJ X W body ρ o ∧ RE X.K F H σ ρ ∧ SPost X W F H σ ρ D o
theorem pss_BJ : PSs X body (tBJ X W body) := ⟨fun pins s σ H D I h => by
  obtain ⟨F, ρ, o, ⟨t, h1, h2⟩, R, q⟩ := h
  exact h1.run pins s σ H D I (h2 F H σ D R q)⟩
theorem sj_for {iter : Expr} {sh : TgS} {items : List PD} (C : Ok X W lv) (hi : ItJ X W tg iter ρ ρ1 items) (hg : PG X tg (gOf X.K sh)) (hb : ForJ X W sh body items ρ1 o) (hs : ∀ x, foldedSetIterable iter X.env x = pure x := by intro _; rfl) :
    SJ X W (.For tg iter body [] pos) ρ o := by
  obtain ⟨wi, i1, i2⟩ := hi
  refine ⟨_, ps_for C.pass C.calm i1 hg (pss_BJ (X := X) (W := W)) hs, fun F0 H0 σ0 D R0 q => i2 F0 H0 σ0 _ R0 fun F1 H1 J x1 R1 w => ?_⟩
  obtain ⟨G, hG, go, stop, yld⟩ := w.ex
  refine ⟨fun i m σ H => ∃ F ρc, m = items.length - i ∧ i ≤ items.length ∧ Ext σ0 ρ F0 H0 σ ρc F H ∧ Same F1 F ∧ RE X.K F H σ ρc ∧ ForJ X W sh body (items.drop i) ρc o, ⟨items.length, F1, ρ1, rfl, Nat.zero_le _, x1, Same.refl _, R1, hb⟩, ?_⟩
  rintro i m σ H ⟨F, ρc, rfl, hi, xc, sF, Rc, fj⟩
  have g := hG F H sF Rc.fh
  by_cases hlt : i < items.length
  · refine .inr ⟨go i H hlt g, fun σ' H' => ∃ F' ρ', Ext σ0 ρ F0 H0 σ' ρ' F' H' ∧ Same F1 F' ∧ RE X.K F' H' σ' ρ' ∧ ForJ X W sh body (items.drop (i + 1)) ρ' o, ?_, fun x H' y => ?_⟩
    · rintro σ' H' ⟨F', ρ', a1, a2, a3, a4⟩
      exact ⟨items.length - (i + 1), by omega, F', ρ', rfl, hlt, a1, a2, a3, a4⟩
    · have ei : items[i]? = some items[i] := List.getElem?_eq_getElem hlt
      obtain ⟨F', xt, dp⟩ := yld i _ F H x H' ei sF Rc.fh y
      obtain ⟨R2, x2⟩ := Rc.ext xt
      have ed : items.drop i = items[i] :: items.drop (i + 1) := List.drop_eq_getElem_cons hlt
      rw [ed] at fj
      cases fj with
      | nx h1 h2 h3 =>
        obtain ⟨σ', S, g'⟩ := tg_run sh _ _ _ x σ h1 R2 dp
        exact g' _ ⟨F', _, _, h2, S.re, fun F4 H4 σ4 x4 R4 => ⟨F4, _, ((xc.trans x2).trans S.ext).trans x4, (sF.trans xt.ff).trans x4.ff, R4, h3⟩⟩
      | ct h1 h2 h3 =>
        obtain ⟨σ', S, g'⟩ := tg_run sh _ _ _ x σ h1 R2 dp
        exact g' _ ⟨F', _, _, h2, S.re, fun F4 H4 σ4 x4 R4 => ⟨F4, _, ((xc.trans x2).trans S.ext).trans x4, (sF.trans xt.ff).trans x4.ff, R4, h3⟩⟩
      | bk h1 h2 =>
        obtain ⟨σ', S, g'⟩ := tg_run sh _ _ _ x σ h1 R2 dp
        exact g' _ ⟨F', _, _, h2, S.re, fun F4 H4 σ4 x4 R4 => q F4 H4 σ4 (((xc.trans x2).trans S.ext).trans x4) R4⟩
      | rt h1 h2 =>
        obtain ⟨σ', S, g'⟩ := tg_run sh _ _ _ x σ h1 R2 dp
        exact g' _ ⟨F', _, _, h2, S.re, fun F4 H4 σ4 v x4 R4 q4 => q F4 H4 σ4 v (((xc.trans x2).trans S.ext).trans x4) R4 (q4.pull ((xc.trans x2).trans S.ext).tr)⟩
      | ex h1 h2 =>
        obtain ⟨σ', S, g'⟩ := tg_run sh _ _ _ x σ h1 R2 dp
        exact g' _ ⟨F', _, _, h2, S.re, fun F4 H4 σ4 x4 R4 => q F4 H4 σ4 (((xc.trans x2).trans S.ext).trans x4) R4⟩
  · have e : i = items.length := by omega
    subst e
    rw [List.drop_length] at fj
    cases fj
    exact .inl ⟨stop H g, q F H σ xc Rc⟩

/-! ### while -/
inductive WhJ (X : Cx) (W : WX) (c : Expr) (body : List Stmt) : Nat → En → SO → Prop where
  | done {m : Nat} {ρ ρ1 : En} : TJ X W c ρ ρ1 false → WhJ X W c body m ρ (.nx ρ1)
  | nx {m : Nat} {ρ ρ1 ρ2 : En} {o : SO} : TJ X W c ρ ρ1 true → BJ X W body ρ1 (.nx ρ2) → WhJ X W c body m ρ2 o → WhJ X W c body (m + 1) ρ o
  | rt {m : Nat} {ρ ρ1 ρ2 : En} {r : Rs} : TJ X W c ρ ρ1 true → BJ X W body ρ1 (.rt ρ2 r) → WhJ X W c body m ρ (.rt ρ2 r)
def tTJ (X : Cx) (W : WX) (c : Expr) : TT := fun σ H Q => ∃ F ρ ρ' b, TJ X W c ρ ρ' b ∧ RE X.K F H σ ρ ∧ ∀ F' H', Ext σ ρ F H σ ρ' F' H' → RE X.K F' H' σ ρ' → Q b H'
theorem pt_TJ {c : Expr} : PT X c (tTJ X W c) := ⟨fun pins s σ H Q I h => by
  obtain ⟨F, ρ, ρ', b, ⟨t, h1, h2⟩, R, q⟩ := h
  exact h1.run pins s σ H Q I (h2 F H σ Q R q)⟩
theorem sj_while {c : Expr} {m : Nat} (C : Ok X W lv) (hb : WhJ X W c body m ρ o) : SJ X W (.While c body [] pos) ρ o := by
  refine ⟨_, ps_while C.pass (pt_TJ (X := X) (W := W)) (pss_BJ (X := X) (W := W)), fun F0 H0 σ0 D R0 q => ?_⟩
  refine ⟨fun m σ H => ∃ F ρc, Ext σ0 ρ F0 H0 σ ρc F H ∧ RE X.K F H σ ρc ∧ WhJ X W c body m ρc o, ⟨m, F0, ρ, Ext.refl, R0, hb⟩, ?_⟩
  rintro m σ H ⟨F, ρc, xc, Rc, wj⟩
  cases wj with
  | done h1 => 
    refine ⟨F, ρc, _, _, h1, Rc, fun F1 H1 x1 R1 => ?_⟩
    exact iteF (q F1 H1 σ (xc.trans x1) R1)
  | nx h1 h2 h3 =>
    refine ⟨F, ρc, _, _, h1, Rc, fun F1 H1 x1 R1 => ?_⟩
    refine iteT ⟨fun σ' H' => ∃ F' ρ', Ext σ0 ρ F0 H0 σ' ρ' F' H' ∧ RE X.K F' H' σ' ρ' ∧ WhJ X W c body _ ρ' o, ?_, F1, _, _, h2, R1, fun F2 H2 σ2 x2 R2 => ⟨F2, _, (xc.trans x1).trans x2, R2, h3⟩⟩
    rintro σ' H' ⟨F', ρ', a1, a2, a3⟩
    exact ⟨_, Nat.lt_succ_self _, F', ρ', a1, a2, a3⟩
  | rt h1 h2 =>
    refine ⟨F, ρc, _, _, h1, Rc, fun F1 H1 x1 R1 => ?_⟩
    exact iteT ⟨fun _ _ => False, fun _ _ z => z.elim, F1, _, _, h2, R1, fun F2 H2 σ2 v x2 R2 q2 => q F2 H2 σ2 v ((xc.trans x1).trans x2) R2 (q2.pull (xc.trans x1).tr)⟩
end
end Pj

set_option Elab.async false
set_option linter.all false
set_option maxRecDepth 100000
namespace Pj
open PySem PySem.Spec PyProof.Rows L2

/-! ### comprehensions -/
def BlkX (X : Cx) (scope : Scope) (Y : Cx) : Prop := ∃ (s : Shared) (H : Hp) (C : Addr) (cl : List (Str × Addr)) (fp : List Addr), Y = X.blk s H scope (compEnvC scope cl C X.env) fp
def IfsJ (X : Cx) (ifs : List Expr) (ρ ρ' : En) (b : Bool) : Prop := ∃ t, PTs X ifs t ∧ ∀ F H σ Q, RE X.K F H σ ρ → (∀ F' H', Ext σ ρ F H σ ρ' F' H' → RE X.K F' H' σ ρ' → Q b H') → t σ H Q
theorem ifs_nil {X : Cx} {ρ : En} : IfsJ X [] ρ ρ true := ⟨_, pts_nil, fun F H σ Q R q => q F H Ext.refl R⟩
theorem ifs_one {X : Cx} {ρ ρ' : En} {c : Expr} {b : Bool} (h : TJ X W0 c ρ ρ' b) : IfsJ X [c] ρ ρ' b := by
  obtain ⟨t, h1, h2⟩ := h
  exact ⟨t, pts_one h1, h2⟩
def wipeE (ρ : En) : List Nat → En
  | [] => ρ
  | v :: vs => (wipeE ρ vs).set v .un
/-- the turn's end, seen from outside the block -/
structure Back (vs : List Nat) (ρ ρe ρ1 : En) : Prop where
  len : ρ1.length = ρe.length
  out : ∀ i, i ∉ vs → ρ1[i]? = ρe[i]?
  own : ∀ i, i ∈ vs → ρ1[i]? = ρ[i]?
inductive LcJ (X : Cx) (scope : Scope) (vs : List Nat) (sh : TgS) (elt : Expr) (ifs : List Expr) : List PD → En → List PD → En → Prop where
  | nil {ρ : En} : LcJ X scope vs sh elt ifs [] ρ [] ρ
  | keep {x y : PD} {xs ys : List PD} {ρ ρt ρi ρe ρ1 ρ2 : En} : tgSet sh x (wipeE ρ vs) = some ρt → (∀ Y, BlkX X scope Y → IfsJ Y ifs ρt ρi true) → (∀ Y, BlkX X scope Y → EJ Y W0 elt ρi (.ok ρe (.va y))) → Back vs ρ ρe ρ1 →
      LcJ X scope vs sh elt ifs xs ρ1 ys ρ2 → LcJ X scope vs sh elt ifs (x :: xs) ρ (y :: ys) ρ2
  | skip {x : PD} {xs ys : List PD} {ρ ρt ρi ρ1 ρ2 : En} : tgSet sh x (wipeE ρ vs) = some ρt → (∀ Y, BlkX X scope Y → IfsJ Y ifs ρt ρi false) → Back vs ρ ρi ρ1 →
      LcJ X scope vs sh elt ifs xs ρ1 ys ρ2 → LcJ X scope vs sh elt ifs (x :: xs) ρ ys ρ2

theorem wipeE_length (ρ : En) : ∀ vs, (wipeE ρ vs).length = ρ.length
  | [] => rfl
  | v :: vs => by unfold wipeE; rw [List.length_set, wipeE_length ρ vs]
theorem wipeE_out {ρ : En} {i : Nat} : ∀ {vs : List Nat}, i ∉ vs → (wipeE ρ vs)[i]? = ρ[i]?
  | [], _ => rfl
  | v :: vs, h => by
    unfold wipeE
    rw [List.getElem?_set_ne (by intro e; apply h; simp [e])]
    exact wipeE_out (by intro e; apply h; simp [e])
theorem wipeE_own {ρ : En} {i : Nat} {s : Sl} : ∀ {vs : List Nat}, i ∈ vs → (wipeE ρ vs)[i]? = some s → s = .un
  | [], h, _ => by cases h
  | v :: vs, h, e => by
    unfold wipeE at e
    by_cases z : v = i
    · subst z
      by_cases hl : v < (wipeE ρ vs).length
      · rw [List.getElem?_set_self hl] at e; cases e; rfl
      · rw [List.getElem?_eq_none (by simpa using hl)] at e; cases e
    · rw [List.getElem?_set_ne z] at e
      rcases List.mem_cons.mp h with q | q
      · exact absurd q.symm z
      · exact wipeE_own q e
theorem wipe_outS {σ : L2.St} {i : Nat} : ∀ {vs : List Nat}, i ∉ vs → (wipe σ vs)[i]? = σ[i]?
  | [], _ => rfl
  | v :: vs, h => by
    unfold wipe
    rw [List.getElem?_set_ne (by intro e; apply h; simp [e])]
    exact wipe_outS (by intro e; apply h; simp [e])
theorem wipe_ownS {σ : L2.St} {i : Nat} : ∀ {vs : List Nat}, i ∈ vs → (wipe σ vs)[i]? = if i < σ.length then some none else none
  | [], h => by cases h
  | v :: vs, h => by
    unfold wipe
    by_cases z : v = i
    · subst z
      by_cases hl : v < σ.length
      · rw [List.getElem?_set_self (by rw [wipe_length]; exact hl), if_pos hl]
      · rw [List.getElem?_eq_none (by rw [List.length_set, wipe_length]; omega), if_neg hl]
    · rw [List.getElem?_set_ne z]
      rcases List.mem_cons.mp h with q | q
      · exact absurd q.symm z
      · exact wipe_ownS q
theorem wipe_agree {σ σ' : L2.St} {vs : List Nat} (hl : σ'.length = σ.length) (h : ∀ i, i ∉ vs → σ'[i]? = (wipe σ vs)[i]?) : wipe σ' vs = wipe σ vs := by
  refine List.ext_getElem? fun i => ?_
  by_cases z : i ∈ vs
  · rw [wipe_ownS z, wipe_ownS z, hl]
  · rw [wipe_outS z, h i z]

section
variable {X : Cx} {W : WX} {lv : Nat} {scope : Scope} {own : List (Str × Nat)} {sh : TgS} {elt tg iter : Expr} {ifs : List Expr} {items ys : List PD} {ρ ρ1 ρ2 : En} {pos : Pos}
def teJ (X : Cx) (scope : Scope) (elt : Expr) : TE := fun σ H Q => ∃ F ρ ρe y, (∀ Y, BlkX X scope Y → EJ Y W0 elt ρ (.ok ρe (.va y))) ∧ RE X.K F H σ ρ ∧ EPost X W0 F H σ ρ Q (.ok ρe (.va y))
def ttJ (X : Cx) (scope : Scope) (ifs : List Expr) : TT := fun σ H Q => ∃ F ρ ρi b, (∀ Y, BlkX X scope Y → IfsJ Y ifs ρ ρi b) ∧ RE X.K F H σ ρ ∧ ∀ F' H', Ext σ ρ F H σ ρi F' H' → RE X.K F' H' σ ρi → Q b H'
theorem te_ok (s : Shared) (H : Hp) (C : Addr) (cl : List (Str × Addr)) (fp : List Addr) : PE (X.blk s H scope (compEnvC scope cl C X.env) fp) elt (teJ X scope elt) := ⟨fun pins s' σ H' Q I h => by
  obtain ⟨F, ρ, ρe, y, hJ, R, q⟩ := h
  obtain ⟨t, h1, h2⟩ := hJ _ ⟨s, H, C, cl, fp, rfl⟩
  exact h1.run pins s' σ H' Q I (h2 F H' σ Q R q)⟩
theorem tt_ok (s : Shared) (H : Hp) (C : Addr) (cl : List (Str × Addr)) (fp : List Addr) : PTs (X.blk s H scope (compEnvC scope cl C X.env) fp) ifs (ttJ X scope ifs) := ⟨fun pins s' σ H' Q I h => by
  obtain ⟨F, ρ, ρi, b, hJ, R, q⟩ := h
  obtain ⟨t, h1, h2⟩ := hJ _ ⟨s, H, C, cl, fp, rfl⟩
  exact h1.run pins s' σ H' Q I (h2 F H' σ Q R q)⟩
/-- from the block back -/
theorem re_back {K : PySem.W.Frag} {F' H' F4 H4 : Hp} {σ σ2 : L2.St} {ρc ρt ρe ρ1 : En} {vs : List Nat} (Rc : RE K F' H' σ ρc) (R4 : RE K F4 H4 σ2 ρe) (x : Ext σ2 ρt F' H' σ2 ρe F4 H4) (hl : σ2.length = σ.length) (hσ : ∀ i, i ∉ vs → σ2[i]? = σ[i]?)
    (hρ : ∀ i, i ∉ vs → ρt[i]? = ρc[i]?) (hv : ∀ i s, i ∈ vs → ρc[i]? = some s → s.ct = none) (ht : ∀ i s, i ∈ vs → ρt[i]? = some s → s.ct = none) (B : Back vs ρc ρe ρ1) :
    RE K F4 H4 σ ρ1 ∧ Ext σ ρc F' H' σ ρ1 F4 H4 ∧ ∀ i a, OwAt σ2 ρt i a → OwAt σ ρc i a := by
  have o1 : ∀ i a, OwAt σ ρ1 i a → OwAt σ2 ρe i a := fun i a ⟨⟨s, c, h1, h2⟩, h3⟩ => by
    by_cases z : i ∈ vs
    · rw [B.own i z] at h1
      rw [hv i s z h1] at h2
      cases h2
    · exact ⟨⟨s, c, B.out i z ▸ h1, h2⟩, by rw [hσ i z]; exact h3⟩
  have o2 : ∀ i a, OwAt σ2 ρt i a → OwAt σ ρc i a := fun i a ⟨⟨s, c, h1, h2⟩, h3⟩ => by
    by_cases z : i ∈ vs
    · rw [ht i s z h1] at h2
      cases h2
    · exact ⟨⟨s, c, hρ i z ▸ h1, h2⟩, hσ i z ▸ h3⟩
  refine ⟨⟨by rw [← hl, B.len]; exact R4.len, R4.fh, fun i d h => ?_, fun i s c h1 h2 => ?_, fun i j a h1 h2 => R4.inj i j a (o1 i a h1) (o1 j a h2)⟩, ⟨x.ff, fun b o h n => x.hh b o h fun i q => n i (o2 i b q), fun b o f h n => x.nf b o f h fun i q => n i (o2 i b q), fun i a h => ?_, x.tr⟩, o2⟩
  · by_cases z : i ∈ vs
    · rw [B.own i z] at h
      obtain ⟨v, q1, q2⟩ := Rc.va i d h
      exact ⟨v, q1, Dp.mono q2 x.ff⟩
    · rw [B.out i z] at h
      rw [← hσ i z]
      exact R4.va i d h
  · by_cases z : i ∈ vs
    · rw [B.own i z] at h1
      rw [hv i s z h1] at h2
      cases h2
    · rw [B.out i z] at h1
      rw [← hσ i z]
      exact R4.ob i s c h1 h2
  · rcases x.ow i a (o1 i a h) with ⟨j, z⟩ | z
    · exact .inl ⟨j, o2 j a z⟩
    · exact .inr z
/-- a thing that no slot holds is changed -/
theorem re_side {K : PySem.W.Frag} {F H : Hp} {σ : L2.St} {ρ : En} {D : Addr} {u : HO} (R : RE K F H σ ρ) (f : F D = none) (n : ∀ i, ¬ OwAt σ ρ i D) : RE K F (upd H D u) σ ρ := by
  refine ⟨R.len, fun b o h => ?_, R.va, fun i s c h1 h2 => ?_, R.inj⟩
  · rw [upd_ne (ne_of_none h f)]
    exact R.fh b o h
  · obtain ⟨a, o, q1, q2, q3, q4, q5⟩ := R.ob i s c h1 h2
    have ne : a ≠ D := fun e => n i ⟨⟨s, c, h1, h2⟩, by rw [q1, e]⟩
    exact ⟨a, o, q1, q2, q3, by rw [upd_ne ne]; exact q4, q5⟩
theorem ext_side {F0 H0 F H : Hp} {σ0 σ : L2.St} {ρ0 ρ : En} {D : Addr} {u : HO} (x : Ext σ0 ρ0 F0 H0 σ ρ F H) (h : H0 D = none) : Ext σ0 ρ0 F0 H0 σ ρ F (upd H D u) := by
  refine ⟨x.ff, fun b o g n => ?_, x.nf, x.ow, fun b z => ?_⟩
  · rw [upd_ne (ne_of_none g h)]
    exact x.hh b o g n
  · by_cases e : b = D
    · subst e; exact h
    · rw [upd_ne e] at z; exact x.tr b z
/-- THE READING of a comprehension -/
theorem lc_read {F0 H0 : Hp} {σ : L2.St} {Q : VK} {wi : TI} {vs : List Nat}
    (hi : ∀ F H σ R, RE X.K F H σ ρ → (∀ F1 H1 J, Ext σ ρ F H σ ρ1 F1 H1 → RE X.K F1 H1 σ ρ1 → Wk X.K F1 J items → R J H1) → wi σ H R)
    (hl : LcJ X scope vs sh elt ifs items ρ1 ys ρ2) (hs : ∀ i, i ∈ tgVars sh → i ∈ vs) (hv : ∀ i s, i ∈ vs → ρ1[i]? = some s → s.ct = none) (hz : ys.length < sizeLine)
    (R0 : RE X.K F0 H0 σ ρ) (q : EPost X W F0 H0 σ ρ Q (.ok ρ2 (.ow (.lst ys)))) : tLc wi (gOf X.K sh) (ttJ X scope ifs) (teJ X scope elt) vs σ H0 Q := by
  refine hi F0 H0 σ _ R0 fun F1 H1 J x1 R1 w => fun D hD => ?_
  obtain ⟨G, hG, go, stop, yld⟩ := w.ex
  have hD0 : H0 D = none := x1.tr D hD
  have FD : F1 D = none := Same.free R1.fh hD
  have nD : ∀ i, ¬ OwAt σ ρ1 i D := fun i z => by
    obtain ⟨_, o, e⟩ := R1.owAt z
    rw [hD] at e; cases e
  refine ⟨fun i m H => ∃ F ρc acc done rest, m = items.length - i ∧ i ≤ items.length ∧ Ext σ ρ F0 H0 σ ρc F H ∧ Same F1 F ∧ RE X.K F H σ ρc ∧ F D = none ∧ H D = some (.lst acc) ∧ DpAll X.K F acc done ∧ (∀ i, ¬ OwAt σ ρc i D) ∧ ys = done ++ rest ∧
    (∀ i s, i ∈ vs → ρc[i]? = some s → s.ct = none) ∧ LcJ X scope vs sh elt ifs (items.drop i) ρc rest ρ2,
    ⟨items.length, F1, ρ1, [], [], ys, rfl, Nat.zero_le _, ext_side x1 hD0, Same.refl _, re_side R1 FD nD, FD, upd_same, .nil, nD, rfl, hv, hl⟩, ?_⟩
  rintro i m H ⟨F, ρc, acc, done, rest, rfl, hi', xc, sF, Rc, fD, hDl, dA, nDc, ey, hvc, lj⟩
  have g := hG F H sF Rc.fh
  by_cases hlt : i < items.length
  · refine .inr ⟨go i H hlt g, fun H' => ∃ F ρc acc done rest, Ext σ ρ F0 H0 σ ρc F H' ∧ Same F1 F ∧ RE X.K F H' σ ρc ∧ F D = none ∧ H' D = some (.lst acc) ∧ DpAll X.K F acc done ∧ (∀ i, ¬ OwAt σ ρc i D) ∧ ys = done ++ rest ∧
      (∀ i s, i ∈ vs → ρc[i]? = some s → s.ct = none) ∧ LcJ X scope vs sh elt ifs (items.drop (i + 1)) ρc rest ρ2, ?_, fun x H' y => ?_⟩
    · rintro H' ⟨F', ρ', acc', done', rest', a⟩
      exact ⟨items.length - (i + 1), by omega, F', ρ', acc', done', rest', rfl, hlt, a⟩
    · have ei : items[i]? = some items[i] := List.getElem?_eq_getElem hlt
      obtain ⟨F', xt, dp⟩ := yld i _ F H x H' ei sF Rc.fh y
      obtain ⟨R2, x2⟩ := Rc.ext xt
      have fD' : F' D = none := xt.nf D _ fD hDl
      have hDl' : H' D = some (.lst acc) := xt.hh D _ hDl
      have dA' := DpAll.mono dA xt.ff
      -- the block
      have Rb : RE X.K F' H' (wipe σ vs) (wipeE ρc vs) := re_wipe R2 (wipe_length σ vs) (wipeE_length ρc vs) fun j => by
        by_cases z : j ∈ vs
        · exact .inr fun s e => wipeE_own z e
        · exact .inl ⟨wipe_outS z, wipeE_out z⟩
      have ed : items.drop i = items[i] :: items.drop (i + 1) := List.drop_eq_getElem_cons hlt
      rw [ed] at lj
      have prep : ∀ {ρt}, tgSet sh items[i] (wipeE ρc vs) = some ρt → ∃ σ2, RE X.K F' H' σ2 ρt ∧ σ2.length = σ.length ∧ (∀ j, j ∉ vs → σ2[j]? = σ[j]?) ∧ (∀ j, j ∉ vs → ρt[j]? = ρc[j]?) ∧ (∀ j s, j ∈ vs → ρt[j]? = some s → s.ct = none) ∧ wipe σ2 vs = wipe σ vs ∧
          ∀ Q : L2.St → Hp → Prop, Q σ2 H' → gOf X.K sh x (wipe σ vs) H' Q := fun {ρt} ht => by
        obtain ⟨σ2, S, gg⟩ := tg_run sh _ _ _ x (wipe σ vs) ht Rb dp
        have l2 : σ2.length = σ.length := S.len.trans (wipe_length σ vs)
        have o2 : ∀ j, j ∉ vs → σ2[j]? = (wipe σ vs)[j]? := fun j hj => (S.out j fun z => hj (hs j z)).1
        refine ⟨σ2, S.re, l2, fun j hj => (o2 j hj).trans (wipe_outS hj), fun j hj => ((S.out j fun z => hj (hs j z)).2).trans (wipeE_out hj), fun j s hj e => ?_, wipe_agree l2 o2, gg⟩
        cases hct : s.ct with
        | none => rfl
        | some c =>
          exfalso
          obtain ⟨a, o, z1, _⟩ := S.re.ob j s c e hct
          rcases S.ext.ow j a ⟨⟨s, c, e, hct⟩, z1⟩ with ⟨k, z⟩ | z
          · have kvs : k ∉ vs := fun kv => by
              obtain ⟨⟨s', c', w1, w2⟩, _⟩ := z
              rw [wipeE_own kv w1] at w2
              cases w2
            have z' : OwAt σ2 ρt k a := by
              obtain ⟨⟨s', c', w1, w2⟩, w3⟩ := z
              exact ⟨⟨s', c', by rw [(S.out k fun z => kvs (hs k z)).2]; exact w1, w2⟩, by rw [(S.out k fun z => kvs (hs k z)).1]; exact w3⟩
            exact kvs (S.re.inj j k a ⟨⟨s, c, e, hct⟩, z1⟩ z' ▸ hj)
          · obtain ⟨_, o', z2⟩ := S.re.owAt ⟨⟨s, c, e, hct⟩, z1⟩
            rw [z] at z2; cases z2
      cases lj with
      | @keep _ y _ ysr _ ρt ρi ρe ρn _ h1 h2 h3 h4 h5 =>
        obtain ⟨σ2, Rt, l2, oσ, oρ, vt, wp, gg⟩ := prep h1
        refine gg _ ⟨wp, F', ρt, ρi, true, h2, Rt, fun F3 H3 x3 R3 => ?_⟩
        refine iteT ⟨F3, ρi, ρe, y, h3, R3, fun F4 H4 v4 x4 R4 q4 => ?_⟩
        obtain ⟨Rn, xn, on⟩ := re_back R2 R4 (x3.trans x4) l2 oσ oρ hvc vt h4
        have nD2 : ∀ j, ¬ OwAt σ2 ρt j D := fun j z => nDc j (on j D z)
        have hD4 : H4 D = some (.lst acc) := (x3.trans x4).hh D _ hDl' nD2
        have fD4 : F4 D = none := (x3.trans x4).nf D _ fD' hDl' nD2
        have nDn : ∀ j, ¬ OwAt σ ρn j D := fun j z => by
          rcases xn.ow j D z with ⟨k, z'⟩ | z'
          · exact nDc k z'
          · rw [hDl'] at z'; cases z'
        refine ⟨acc, hD4, ?_, ?_⟩
        · rw [DpAll.len dA]
          rw [ey, List.length_append, List.length_cons] at hz
          omega
        · refine ⟨F4, ρn, acc ++ [v4], done ++ [y], ysr, ext_side ((xc.trans x2).trans xn) hD0, (sF.trans xt.ff).trans xn.ff, re_side Rn fD4 nDn, fD4, upd_same, DpAll.append (DpAll.mono dA' xn.ff) (.cons q4.1 .nil), nDn, by rw [ey]; simp, fun j s hj e => ?_, h5⟩
          rw [h4.own j hj] at e
          exact hvc j s hj e
      | @skip _ _ _ _ ρt ρi ρn _ h1 h2 h4 h5 =>
        obtain ⟨σ2, Rt, l2, oσ, oρ, vt, wp, gg⟩ := prep h1
        refine gg _ ⟨wp, F', ρt, ρi, false, h2, Rt, fun F3 H3 x3 R3 => ?_⟩
        refine iteF ?_
        obtain ⟨Rn, xn, on⟩ := re_back R2 R3 x3 l2 oσ oρ hvc vt h4
        have nD2 : ∀ j, ¬ OwAt σ2 ρt j D := fun j z => nDc j (on j D z)
        have hD4 : H3 D = some (.lst acc) := x3.hh D _ hDl' nD2
        have fD4 : F3 D = none := x3.nf D _ fD' hDl' nD2
        have nDn : ∀ j, ¬ OwAt σ ρn j D := fun j z => by
          rcases xn.ow j D z with ⟨k, z'⟩ | z'
          · exact nDc k z'
          · rw [hDl'] at z'; cases z'
        refine ⟨F3, ρn, acc, done, rest, (xc.trans x2).trans xn, (sF.trans xt.ff).trans xn.ff, Rn, fD4, hD4, DpAll.mono dA' xn.ff, nDn, ey, fun j s hj e => ?_, h5⟩
        rw [h4.own j hj] at e
        exact hvc j s hj e
  · have e : i = items.length := by omega
    subst e
    rw [List.drop_length] at lj
    cases lj
    rw [List.append_nil] at ey
    subst ey
    exact .inl ⟨stop H g, q F H _ xc Rc ⟨⟨D, _, rfl, fD, hDl, dA, hD0⟩, fun c a _ e2 i z => by cases e2; exact nDc i z⟩⟩
end
end Pj

set_option Elab.async false
set_option linter.all false
set_option maxRecDepth 100000
namespace Pj
open PySem PySem.Spec PyProof.Rows L2
section
variable {X : Cx} {W : WX} {lv : Nat} {scope : Scope} {own : List (Str × Nat)} {sh : TgS} {elt tg iter e : Expr} {es : List Expr} {ifs : List Expr} {items ys ds : List PD} {ρ ρ1 ρ2 ρ3 : En} {pos p : Pos} {d x y : PD} {z : Rs} {n : Str}

def noCt (ρ : En) (vs : List Nat) : Bool := vs.all fun i => match ρ[i]? with
  | some (.ow _) => false
  | some (.br _ _) => false
  | _ => true
theorem noCt_ok {vs : List Nat} (h : noCt ρ vs = true) : ∀ (i : Nat) (s : Sl), i ∈ vs → ρ[i]? = some s → s.ct = none := fun i s hi e => by
  have q := List.all_eq_true.mp h i hi
  simp only [e] at q
  cases s <;> first | rfl | cases q
def subB (a b : List Nat) : Bool := a.all fun i => b.contains i
theorem subB_ok {a b : List Nat} (h : subB a b = true) : ∀ i, i ∈ a → i ∈ b := fun i hi => by
  have q := List.all_eq_true.mp h i hi
  simpa using q
theorem ej_lc (C : Ok X W lv) (hi : ItJ X W tg iter ρ ρ1 items) (ok : BlkOk X.N X.env.scope scope own) (hg : ∀ (s : Shared) (H : Hp) (A : Addr) (cl : List (Str × Addr)) (fp : List Addr), PG (X.blk s H scope (compEnvC scope cl A X.env) fp) tg (gOf X.K sh))
    (hl : LcJ X scope (own.map (·.2)) sh elt ifs items ρ1 ys ρ2) (hz : ys.length < sizeLine) (hs : subB (tgVars sh) (own.map (·.2)) = true := by rfl) (hv : noCt ρ1 (own.map (·.2)) = true := by rfl)
    (hf : ∀ x, foldedSetIterable iter X.env x = pure x := by intro _; rfl) : EJ X W (.ListComp elt [⟨tg, iter, ifs, 0⟩] scope pos) ρ (.ok ρ2 (.ow (.lst ys))) := by
  obtain ⟨wi, i1, i2⟩ := hi
  exact ⟨_, pe_lc C.calm C.nd i1 ok hg tt_ok te_ok hf, fun F H σ Q R q => lc_read i2 hl (subB_ok hs) (noCt_ok hv) hz R q⟩
theorem sj_setC (i : Nat) {py : Pos} {y : Str} (C : Ok X W lv) (hi : ItJ X W tg iter ρ ρ1 items) (ok : BlkOk X.N X.env.scope scope own) (hg : ∀ (s : Shared) (H : Hp) (A : Addr) (cl : List (Str × Addr)) (fp : List Addr), PG (X.blk s H scope (compEnvC scope cl A X.env) fp) tg (gOf X.K sh))
    (hl : LcJ X scope (own.map (·.2)) sh elt ifs items ρ1 ys ρ2) (hz : ys.length < sizeLine) (hsw : swapsWith (.ListComp elt [⟨tg, iter, ifs, 0⟩] scope pos) (some (.Name y py)) p.line X.env = pure true) (hs : subB (tgVars sh) (own.map (·.2)) = true := by rfl) (hv : noCt ρ1 (own.map (·.2)) = true := by rfl)
    (hf : ∀ x, foldedSetIterable iter X.env x = pure x := by intro _; rfl) (hy : X.N[i]? = some y := by rfl) (hyl : X.env.scope.names.lookup y = some .local := by rfl) (hlt : i < ρ2.length := by exact Nat.le_of_ble_eq_true rfl) : SJ X W (.Assign [.Name y py] (.ListComp elt [⟨tg, iter, ifs, 0⟩] scope pos) p) ρ (.nx (ρ2.set i (.ow (.lst ys)))) := by
  obtain ⟨wi, i1, i2⟩ := hi
  refine ⟨_, ps_setLc C.calm C.nd hy hyl hsw i1 ok hg tt_ok te_ok hf, fun F H σ D R q => lc_read (W := W) i2 hl (subB_ok hs) (noCt_ok hv) hz R fun F1 H1 v x1 R1 q1 => ?_⟩
  obtain ⟨R2, g⟩ := R1.set (r := .ow (.lst ys)) hlt q1
  exact q F1 H1 _ (x1.set g) R2
/-- nothing changes in a turn: one item of the result for each -/
theorem tgSet_len : ∀ (sh : TgS) (d : PD) (ρ ρ' : En), tgSet sh d ρ = some ρ' → ρ'.length = ρ.length := fun sh => by
  refine TgS.rec (motive_1 := fun sh => ∀ (d : PD) (ρ ρ' : En), tgSet sh d ρ = some ρ' → ρ'.length = ρ.length) (motive_2 := fun ts => ∀ (ds : List PD) (ρ ρ' : En), tgSets ts ds ρ = some ρ' → ρ'.length = ρ.length) (fun i d ρ ρ' h => ?_) (fun ts ih d ρ ρ' h => ?_) (fun ds ρ ρ' h => ?_) (fun t ts h1 h2 ds ρ ρ' h => ?_) sh
  · unfold tgSet at h
    split at h
    · cases h; rw [List.length_set]
    · cases h
  · cases d with
    | tuple ds => unfold tgSet at h; exact ih ds ρ ρ' h
    | _ => unfold tgSet at h; cases h
  · cases ds with
    | nil => unfold tgSets at h; cases h; rfl
    | cons _ _ => unfold tgSets at h; cases h
  · cases ds with
    | nil => unfold tgSets at h; cases h
    | cons d ds =>
      unfold tgSets at h
      split at h
      · rename_i ρ1 e1
        rw [h2 ds ρ1 ρ' h, h1 d ρ ρ1 e1]
      · cases h
theorem tgSet_out : ∀ (sh : TgS) (d : PD) (ρ ρ' : En), tgSet sh d ρ = some ρ' → ∀ i, i ∉ tgVars sh → ρ'[i]? = ρ[i]? := fun sh => by
  refine TgS.rec (motive_1 := fun sh => ∀ (d : PD) (ρ ρ' : En), tgSet sh d ρ = some ρ' → ∀ i, i ∉ tgVars sh → ρ'[i]? = ρ[i]?) (motive_2 := fun ts => ∀ (ds : List PD) (ρ ρ' : En), tgSets ts ds ρ = some ρ' → ∀ i, i ∉ tgsVars ts → ρ'[i]? = ρ[i]?) (fun i d ρ ρ' h j hj => ?_) (fun ts ih d ρ ρ' h j hj => ?_) (fun ds ρ ρ' h j hj => ?_) (fun t ts h1 h2 ds ρ ρ' h j hj => ?_) sh
  · unfold tgSet at h
    split at h
    · cases h
      exact List.getElem?_set_ne (fun e => hj (by unfold tgVars; simp [e]))
    · cases h
  · cases d with
    | tuple ds => unfold tgSet at h; exact ih ds ρ ρ' h j (by unfold tgVars at hj; exact hj)
    | _ => unfold tgSet at h; cases h
  · cases ds with
    | nil => unfold tgSets at h; cases h; rfl
    | cons _ _ => unfold tgSets at h; cases h
  · unfold tgsVars at hj
    rw [List.mem_append, not_or] at hj
    cases ds with
    | nil => unfold tgSets at h; cases h
    | cons d ds =>
      unfold tgSets at h
      split at h
      · rename_i ρ1 e1
        rw [h2 ds ρ1 ρ' h j hj.2, h1 d ρ ρ1 e1 j hj.1]
      · cases h
theorem back_pure {vs : List Nat} {ρt : En} (h : tgSet sh x (wipeE ρ vs) = some ρt) (hs : ∀ i, i ∈ tgVars sh → i ∈ vs) : Back vs ρ ρt ρ :=
  ⟨by rw [tgSet_len sh _ _ _ h, wipeE_length], fun i hi => by rw [tgSet_out sh _ _ _ h i fun z => hi (hs i z), wipeE_out hi], fun i _ => rfl⟩
theorem lcJ_map {α : Type} {vs : List Nat} (en f : α → PD) (hs : subB (tgVars sh) vs = true) : ∀ (l : List α), (∀ a, a ∈ l → ∃ ρt, tgSet sh (en a) (wipeE ρ vs) = some ρt ∧ ∀ Y, BlkX X scope Y → EJ Y W0 elt ρt (.ok ρt (.va (f a)))) →
    LcJ X scope vs sh elt [] (l.map en) ρ (l.map f) ρ
  | [], _ => .nil
  | a :: l, h => by
    obtain ⟨ρt, h1, h2⟩ := h a List.mem_cons_self
    exact .keep h1 (fun _ _ => ifs_nil) h2 (back_pure h1 (subB_ok hs)) (lcJ_map en f hs l fun b hb => h b (List.mem_cons_of_mem _ hb))
theorem lcJ_filter {α : Type} {vs : List Nat} {c : Expr} (en f : α → PD) (pr : α → Bool) (hs : subB (tgVars sh) vs = true) : ∀ (l : List α), (∀ a, a ∈ l → ∃ ρt, tgSet sh (en a) (wipeE ρ vs) = some ρt ∧ (∀ Y, BlkX X scope Y → TJ Y W0 c ρt ρt (pr a)) ∧ (pr a = true → ∀ Y, BlkX X scope Y → EJ Y W0 elt ρt (.ok ρt (.va (f a))))) →
    LcJ X scope vs sh elt [c] (l.map en) ρ ((l.filter pr).map f) ρ
  | [], _ => .nil
  | a :: l, h => by
    obtain ⟨ρt, h1, h2, h3⟩ := h a List.mem_cons_self
    have ih := lcJ_filter (c := c) en f pr hs l fun b hb => h b (List.mem_cons_of_mem _ hb)
    cases e : pr a with
    | true =>
      rw [List.filter_cons_of_pos e]
      exact .keep h1 (fun Y hY => ifs_one (e ▸ h2 Y hY)) (h3 e) (back_pure h1 (subB_ok hs)) ih
    | false =>
      rw [List.filter_cons_of_neg (by rw [e]; decide)]
      exact .skip h1 (fun Y hY => ifs_one (e ▸ h2 Y hY)) (back_pure h1 (subB_ok hs)) ih

/-! ### own things, by their names -/
theorem ct_some {s : Sl} {c : Ct} (h : s.ct = some c) : s = .ow c ∨ ∃ a, s = .br a c := by
  cases s with
  | un => cases h
  | va d => cases h
  | ow c' => cases h; exact .inl rfl
  | br a c' => cases h; exact .inr ⟨a, rfl⟩
/-- the same holder with another content -/
def Sl.upd : Sl → Ct → Sl
  | .ow _, c => .ow c
  | .br a _, c => .br a c
  | s, _ => s
/-- an own thing is changed in place -/
theorem re_upd {K : PySem.W.Frag} {F H : Hp} {σ : L2.St} {i : Nat} {a : Addr} {s : Sl} {c c' : Ct} {u : HO} (R : RE K F H σ ρ) (hd : ρ[i]? = some s) (hs : s.ct = some c) (ha : σ[i]? = some (some (.ref a))) (hu : CtOk K F u c') :
    RE K F (L2.upd H a u) σ (ρ.set i (s.upd c')) ∧ Ext σ ρ F H σ (ρ.set i (s.upd c')) F (L2.upd H a u) := by
  have hi : i < ρ.length := (List.getElem?_eq_some_iff.mp hd).1
  have hA : OwAt σ ρ i a := ⟨⟨s, c, hd, hs⟩, ha⟩
  obtain ⟨a', o', w1, w2, w3, w4, w5⟩ := R.ob i s c hd hs
  rw [ha] at w1
  cases w1
  have cu : (s.upd c').ct = some c' := by
    rcases ct_some hs with rfl | ⟨b, rfl⟩ <;> rfl
  have iu : (s.upd c').isAt a := by
    rcases ct_some hs with rfl | ⟨b, rfl⟩
    · trivial
    · exact w2
  have ow : ∀ j b, OwAt σ (ρ.set i (s.upd c')) j b → OwAt σ ρ j b := fun j b ⟨⟨s', c'', h1, h2⟩, h3⟩ => by
    by_cases z : j = i
    · subst z; exact ⟨⟨s, c, hd, hs⟩, h3⟩
    · rw [List.getElem?_set_ne (Ne.symm z)] at h1
      exact ⟨⟨s', c'', h1, h2⟩, h3⟩
  refine ⟨⟨by rw [List.length_set]; exact R.len, fun b o h => ?_, fun j d h => ?_, fun j s' c'' h1 h2 => ?_, fun j k b h1 h2 => R.inj j k b (ow j b h1) (ow k b h2)⟩, ⟨Same.refl _, fun b o h n => ?_, fun b o f _ _ => f, fun j b h => .inl ⟨j, ow j b h⟩, fun b h => ?_⟩⟩
  · rw [upd_ne (ne_of_none h w3)]
    exact R.fh b o h
  · by_cases z : j = i
    · subst z
      rw [List.getElem?_set_self hi] at h
      rw [Option.some.inj h] at cu
      cases cu
    · rw [List.getElem?_set_ne (Ne.symm z)] at h
      exact R.va j d h
  · by_cases z : j = i
    · subst z
      rw [List.getElem?_set_self hi] at h1
      cases h1
      rw [cu] at h2
      cases h2
      exact ⟨a, u, ha, iu, w3, upd_same, hu⟩
    · rw [List.getElem?_set_ne (Ne.symm z)] at h1
      obtain ⟨a2, u2, q1, q2, q3, q4, q5⟩ := R.ob j s' c'' h1 h2
      have ne : a2 ≠ a := fun e => z (R.inj j i a ⟨⟨s', c'', h1, h2⟩, by rw [q1, e]⟩ hA)
      exact ⟨a2, u2, q1, q2, q3, by rw [upd_ne ne]; exact q4, q5⟩
  · by_cases z : b = a
    · subst z; exact absurd hA (n i)
    · rw [upd_ne z]; exact h
  · by_cases z : b = a
    · subst z; rw [upd_same] at h; cases h
    · rw [upd_ne z] at h; exact h
/-- name.append(e) -/
theorem own_at {K : PySem.W.Frag} {F H : Hp} {σ : L2.St} {i : Nat} {s : Sl} {c : Ct} (R : RE K F H σ ρ) (hd : ρ[i]? = some s) (hs : s.ct = some c) : ∃ a u, σ[i]? = some (some (.ref a)) ∧ F a = none ∧ H a = some u ∧ CtOk K F u c := by
  obtain ⟨a, u, h1, _, h3, h4, h5⟩ := R.ob i s c hd hs
  exact ⟨a, u, h1, h3, h4, h5⟩
theorem ctOk_lst {K : PySem.W.Frag} {F : Hp} {u : HO} {ds : List PD} (h : CtOk K F u (.lst ds)) : ∃ vs, u = .lst vs ∧ DpAll K F vs ds := by
  cases u with
  | lst vs => exact ⟨vs, rfl, h⟩
  | _ => exact h.elim
theorem sj_append (i : Nat) {pn pa p2 : Pos} {s : Sl} (he : EJ X W e ρ (.ok ρ1 (.va d))) (hd : ρ1[i]? = some s := by rfl) (hs : s.ct = some (.lst ds) := by rfl) (h0 : ∃ s0 c0, ρ[i]? = some s0 ∧ s0.ct = some (.lst c0) := by exact ⟨_, _, rfl, rfl⟩) (hz : ds.length < sizeLine) (hN : X.N[i]? = some n := by rfl)
    (hv : Vis X.env.scope n := by first | exact Or.inl rfl | exact Or.inr (Or.inl rfl) | exact Or.inr (Or.inr rfl)) (hdb : (n == ("__debug__" : Str)) = false := by decide) (hcd : (n == ("__classdict__" : Str)) = false := by decide)
    (hst : starEach [e] X.env = (false, eval e X.env) :: starEach [] X.env := by rfl) (hpl : (backTo p2 (starEach [] X.env)).any (·.1) = false := by rfl)
    (hfew : ((backTo p2 (starEach [e] X.env)).all (fun x => !x.1) && (backToKw p2 (keywordEach [] X.env)).all (fun x => x.1.isSome)
      && decide (([e] : List Expr).length + ([] : List Keyword).length + (if ([] : List Keyword).isEmpty then 0 else 1) < 30)) = true := by rfl) (hline : (pa.endLine == p2.line) = true := by rfl)
    (hsw : swapsWith (.Call (.Attribute (.Name n pn) "append" pa) [e] [] p2) none pos.line X.env = pure false := by rfl) : SJ X W (.Expr (.Call (.Attribute (.Name n pn) "append" pa) [e] [] p2) pos) ρ (.nx (ρ1.set i (s.upd (.lst (ds ++ [d]))))) := by
  obtain ⟨t, h1, h2⟩ := he
  refine ⟨_, ps_expr (pe_bm PySem.F.plainAttrs_list PySem.F.slot_list_append PySem.F.type_list_append mt_append (pe_var hN hv hdb hcd) (pa_cons h1 pa_nil hst) rfl hfew hline hst hpl) hsw, fun F H σ D R q => ?_⟩
  obtain ⟨s0, c0, g1, g2⟩ := h0
  obtain ⟨a, u, e1, e2, e3, e4⟩ := own_at R g1 g2
  obtain ⟨vs0, rfl, _⟩ := ctOk_lst e4
  refine ⟨_, e1, .inl ⟨rfl, _, SqL.of e3⟩, h2 F H σ _ R fun F1 H1 v x1 R1 q1 => ?_⟩
  obtain ⟨a', u', f1, f2, f3, f4⟩ := own_at R1 hd hs
  rw [e1] at f1
  cases f1
  obtain ⟨vs, rfl, f5⟩ := ctOk_lst f4
  obtain ⟨R2, x2⟩ := re_upd R1 hd hs e1 (u := .lst (vs ++ [v])) (c' := .lst (ds ++ [d])) (show DpAll X.K F1 (vs ++ [v]) (ds ++ [d]) from DpAll.append f5 (.cons q1.1 .nil))
  exact ⟨a, vs, v, rfl, rfl, f3, by rw [DpAll.len f5]; exact hz, q F1 _ σ (x1.trans x2) R2⟩
/-- name[j] = e -/
theorem sj_setI (i : Nat) {pn ps : Pos} {s : Sl} {a : Expr} {j : Int} {k : Nat} (he : EJ X W e ρ (.ok ρ1 (.va d))) (hj : EJ X W a ρ1 (.ok ρ2 (.va (.int j)))) (hd : ρ2[i]? = some s := by rfl) (hs : s.ct = some (.lst ds) := by rfl) (h0 : ∃ s0 c0, ρ1[i]? = some s0 ∧ s0.ct = some c0 := by exact ⟨_, _, rfl, rfl⟩) (hk : ixN ds.length j = some k := by rfl) (hN : X.N[i]? = some n := by rfl)
    (hv : Vis X.env.scope n := by first | exact Or.inl rfl | exact Or.inr (Or.inl rfl) | exact Or.inr (Or.inr rfl)) (hdb : (n == ("__debug__" : Str)) = false := by decide) (hcd : (n == ("__classdict__" : Str)) = false := by decide)
    (ha : ∀ v, assign (.Subscript (.Name n pn) a ps) X.env v = (do
      let ov ← holding [v] (eval (.Name n pn) X.env)
      let iv ← holding [v, ov] (eval a X.env)
      standAt ps
      holding [v, ov, iv] (setItem ov iv v)
      release [v, ov, iv] []) := by intro _; rfl) (hsw : swapsWithSole [.Subscript (.Name n pn) a ps] e pos.line X.env = pure false := by rfl) (hw : swappedStores [.Subscript (.Name n pn) a ps] e X.env = pure none := by rfl)
    (h1 : (assignEach [.Subscript (.Name n pn) a ps] X.env).map (·.2) = [assign (.Subscript (.Name n pn) a ps) X.env] := by rfl) : SJ X W (.Assign [.Subscript (.Name n pn) a ps] e pos) ρ (.nx (ρ2.set i (s.upd (.lst (ds.set k d))))) := by
  obtain ⟨t, t1, t2⟩ := he
  obtain ⟨u, u1, u2⟩ := hj
  refine ⟨_, ps_asg t1 (pg_sub (pe_var hN hv hdb hcd) u1 set_list ha) hsw hw h1, fun F H σ D R q => t2 F H σ _ R fun F1 H1 v x1 R1 q1 => ?_⟩
  obtain ⟨s0, c0, g1, g2⟩ := h0
  obtain ⟨a0, w0, e1, e2, e3, e4⟩ := own_at R1 g1 g2
  refine ⟨_, e1, u2 F1 H1 σ _ R1 fun F2 H2 v2 x2 R2 q2 => ?_⟩
  cases (show Dp X.K F2 v2 (.int j) from q2.1)
  obtain ⟨a', u', f1, f2, f3, f4⟩ := own_at R2 hd hs
  rw [e1] at f1
  cases f1
  obtain ⟨vs, rfl, f5⟩ := ctOk_lst f4
  obtain ⟨R3, x3⟩ := re_upd R2 hd hs e1 (u := .lst (vs.set k v)) (c' := .lst (ds.set k d)) (show DpAll X.K F2 (vs.set k v) (ds.set k d) from DpAll.set f5 (Dp.mono q1.1 x2.ff) k)
  exact ⟨a0, vs, j, k, rfl, rfl, f3, by rw [DpAll.len f5]; exact hk, q F2 _ σ ((x1.trans x2).trans x3) R3⟩
/-- a call whose first argument is an own thing, by its name; the callee changes it -/
theorem ej_callBAny {Mf : Ct → List PD → Ct → PO → Prop} {k : Nat} {f : Str} {m : Str} {pm : Pos} {c c' : Ct} {s : Sl} {o : PO} (i : Nat) (C : Ok X W lv) (D : Def (md X) f k (spB X.K X.mg Mf)) (ha : AJ X W es ρ ρ1 ds) (hM : Mf c ds c' o) (hd : ρ1[i]? = some s) (hs : s.ct = some c) (h0 : ∃ s0 c0, ρ[i]? = some s0 ∧ s0.ct = some c0)
    (hk : k ≤ lv) (hg : Gl X f) (hN : X.N[i]? = some m) (hv : Vis X.env.scope m) (hdm : (m == ("__debug__" : Str)) = false) (hcd : (m == ("__classdict__" : Str)) = false)
    (hdb : (f == ("__debug__" : Str)) = false) (he : starEach (.Name m pm :: es) X.env = (false, eval (.Name m pm) X.env) :: starEach es X.env) (hpl : (backTo pos (starEach es X.env)).any (·.1) = false) :
    EJ X W (.Call (.Name f p) (.Name m pm :: es) [] pos) ρ (match o with | .ok r => .ok (ρ1.set i (s.upd c')) r | .ex n p => .ex (ρ1.set i (s.upd c')) n p) := by
  obtain ⟨fa, fd, ps, h1, h2, h3, h4⟩ := D.ex
  obtain ⟨t, a1, a2⟩ := ha
  refine ⟨_, pe_callS h4 (C.room.mono hk) hg h1 h2 h3 (fun σ => passAt C.takes σ) (pa_cons (pe_var hN hv hdm hcd) a1 he) hdb he hpl, fun F H σ Q R h => ?_⟩
  obtain ⟨s0, c0, g1, g2⟩ := h0
  obtain ⟨a0, w0, e1, e2, e3, e4⟩ := own_at R g1 g2
  refine ⟨_, e1, a2 F H σ _ R fun F1 H1 vs x1 R1 q1 => ?_⟩
  obtain ⟨a', u', f1, f2, f3, f4⟩ := own_at R1 hd hs
  rw [e1] at f1
  cases f1
  have hA : OwAt σ ρ1 i a0 := ⟨⟨s, c, hd, hs⟩, e1⟩
  refine ⟨F1, a0, u', c, vs, ds, c', o, rfl, hM, R1.fh, f2, f3, f4, q1, ?_⟩
  -- the heap behind the call
  have back : ∀ F' H' u, XtB a0 F1 H1 F' H' → H' a0 = some u → CtOk X.K F' u c' → RE X.K F' H' σ (ρ1.set i (s.upd c')) ∧ Ext σ ρ1 F1 H1 σ (ρ1.set i (s.upd c')) F' H' := fun F' H' u xb hu cu => by
    have hi : i < ρ1.length := (List.getElem?_eq_some_iff.mp hd).1
    have cus : (s.upd c').ct = some c' := by
      rcases ct_some hs with rfl | ⟨b, rfl⟩ <;> rfl
    obtain ⟨a', o', w1, w2, w3, w4, w5⟩ := R1.ob i s c hd hs
    rw [e1] at w1
    cases w1
    have iu : (s.upd c').isAt a0 := by
      rcases ct_some hs with rfl | ⟨b, rfl⟩
      · trivial
      · exact w2
    have ow : ∀ j b, OwAt σ (ρ1.set i (s.upd c')) j b → OwAt σ ρ1 j b := fun j b ⟨⟨s', c'', h1, h2⟩, h3⟩ => by
      by_cases z : j = i
      · rw [z]; exact ⟨⟨s, _, hd, hs⟩, z ▸ h3⟩
      · rw [List.getElem?_set_ne (Ne.symm z)] at h1
        exact ⟨⟨s', c'', h1, h2⟩, h3⟩
    refine ⟨⟨by rw [List.length_set]; exact R1.len, xb.fh, fun j d h => ?_, fun j s' c'' h1 h2 => ?_, fun j k b h1 h2 => R1.inj j k b (ow j b h1) (ow k b h2)⟩, ⟨xb.ff, fun b o h n => ?_, fun b o f h n => xb.nf b o f h, fun j b h => .inl ⟨j, ow j b h⟩, fun b h => ?_⟩⟩
    · by_cases z : j = i
      · subst z
        rw [List.getElem?_set_self hi] at h
        rw [Option.some.inj h] at cus
        cases cus
      · rw [List.getElem?_set_ne (Ne.symm z)] at h
        obtain ⟨v, q1, q2⟩ := R1.va j d h
        exact ⟨v, q1, Dp.mono q2 xb.ff⟩
    · by_cases z : j = i
      · subst z
        rw [List.getElem?_set_self hi] at h1
        cases h1
        rw [cus] at h2
        cases h2
        exact ⟨a0, u, e1, iu, xb.nf _ _ w3 w4, hu, cu⟩
      · rw [List.getElem?_set_ne (Ne.symm z)] at h1
        obtain ⟨a2, u2, q1, q2, q3, q4, q5⟩ := R1.ob j s' c'' h1 h2
        have ne : a2 ≠ a0 := fun e => z (R1.inj j i a0 ⟨⟨s', c'', h1, h2⟩, by rw [q1, e]⟩ hA)
        exact ⟨a2, u2, q1, q2, xb.nf _ _ q3 q4, xb.hh _ _ q4 ne, CtOk.mono q5 xb.ff⟩
    · by_cases z : b = a0
      · subst z; exact absurd hA (n i)
      · exact xb.hh b o h z
    · by_cases z : b = a0
      · subst z; rw [hu] at h; cases h
      · cases e : H1 b with
        | none => rfl
        | some o => rw [xb.hh b o e z] at h; cases h
  cases o with
  | ok r =>
    intro F' H' v u xb hu cu pr
    obtain ⟨R2, x2⟩ := back F' H' u xb hu cu
    refine h F' H' v (x1.trans x2) R2 (RsOk.pull (H1 := H1) ⟨pr, fun c a e1 e2 j z => ?_⟩ x1.tr)
    subst e1
    obtain ⟨a', o', h1, _, _, _, h5⟩ := pr
    rw [h1] at e2
    cases e2
    rcases x2.ow j a z with ⟨l, z'⟩ | z'
    · obtain ⟨_, o'', z2⟩ := R1.owAt z'
      rw [h5] at z2; cases z2
    · obtain ⟨_, o'', z2⟩ := R2.owAt z
      have : ∃ l, OwAt σ ρ1 l a := by
        obtain ⟨⟨s', c'', k1, k2⟩, k3⟩ := z
        by_cases zz : j = i
        · exact ⟨i, ⟨⟨s, _, hd, hs⟩, zz ▸ k3⟩⟩
        · rw [List.getElem?_set_ne (Ne.symm zz)] at k1
          exact ⟨j, ⟨⟨s', c'', k1, k2⟩, k3⟩⟩
      obtain ⟨l, z'⟩ := this
      obtain ⟨_, o'', z2⟩ := R1.owAt z'
      rw [h5] at z2; cases z2
  | ex m q =>
    intro F' H' u xb hu cu
    obtain ⟨R2, x2⟩ := back F' H' u xb hu cu
    exact h F' H' (x1.trans x2) R2
theorem ej_callB {Mf : Ct → List PD → Ct → PO → Prop} {k : Nat} {f : Str} {m : Str} {pm : Pos} {c c' : Ct} {s : Sl} {r : Rs} (i : Nat) (C : Ok X W lv) (D : Def (md X) f k (spB X.K X.mg Mf)) (ha : AJ X W es ρ ρ1 ds) (hM : Mf c ds c' (.ok r)) (hd : ρ1[i]? = some s := by rfl) (hs : s.ct = some c := by rfl) (h0 : ∃ s0 c0, ρ[i]? = some s0 ∧ s0.ct = some c0 := by exact ⟨_, _, rfl, rfl⟩)
    (hk : k ≤ lv := by decide) (hg : Gl X f := by rfl) (hN : X.N[i]? = some m := by rfl) (hv : Vis X.env.scope m := by first | exact Or.inl rfl | exact Or.inr (Or.inl rfl) | exact Or.inr (Or.inr rfl)) (hdm : (m == ("__debug__" : Str)) = false := by decide) (hcd : (m == ("__classdict__" : Str)) = false := by decide)
    (hdb : (f == ("__debug__" : Str)) = false := by decide) (he : starEach (.Name m pm :: es) X.env = (false, eval (.Name m pm) X.env) :: starEach es X.env := by rfl) (hpl : (backTo pos (starEach es X.env)).any (·.1) = false := by rfl) :
    EJ X W (.Call (.Name f p) (.Name m pm :: es) [] pos) ρ (.ok (ρ1.set i (s.upd c')) r) := ej_callBAny (o := .ok r) i C D ha hM hd hs h0 hk hg hN hv hdm hcd hdb he hpl
end

/-! ### a def's body -/
structure Frm where
  cdv : Value
  A : Around
  outer : List Env
  s : Shared
  H : Hp
  E : XK
abbrev fcx (M : Md) (N : List Str) (qual : Str) (sc : Scope) (f : Addr) (fr : Frm) : Cx := cxOf (L2.CX M.P M.w) M.P M.w M.K M.mg M.base N qual sc f fr.cdv fr.A fr.outer fr.s fr.H fr.E
abbrev fwx (fr : Frm) : WX := fun cls d _ H => fr.E cls d H
theorem ok_fcx {M : Md} {N ps : List Str} {qual : Str} {sc : Scope} {f : Addr} {fr : Frm} {k : Nat} (S : FnScope N ps sc) (hr : Room k (fcx M N qual sc f fr).A) : Ok (fcx M N qual sc f fr) (fwx fr) k :=
  ⟨rfl, passes_of rfl, takes_of rfl rfl rfl rfl, S.nd, hr⟩
def FJ (X : Cx) (W : WX) (body : List Stmt) (ρ : En) : PO → Prop
  | .ok r => (∃ ρ', BJ X W body ρ (.rt ρ' r)) ∨ (r = .va .none ∧ ∃ ρ', BJ X W body ρ (.nx ρ'))
  | .ex n p => ∃ ρ', BJ X W body ρ (.ex ρ' n p)
theorem dpAll_re {K : PySem.W.Frag} {F H : Hp} {vs : List V} {ds : List PD} {m : Nat} (h : DpAll K F vs ds) (e : Same F H) : RE K F H (vs.map some ++ List.replicate m none) (ds.map Sl.va ++ List.replicate m .un) := by
  have l := DpAll.len h
  have noct : ∀ (i : Nat) (s : Sl) (c : Ct), (ds.map Sl.va ++ List.replicate m .un)[i]? = some s → s.ct ≠ some c := fun i s c h1 h2 => by
    by_cases z : i < ds.length
    · rw [List.getElem?_append_left (by simpa using z), List.getElem?_map] at h1
      obtain ⟨d, _, rfl⟩ := Option.map_eq_some_iff.mp h1
      cases h2
    · rw [List.getElem?_append_right (by simpa using Nat.le_of_not_lt z), List.getElem?_replicate] at h1
      split at h1
      · cases h1; cases h2
      · cases h1
  refine ⟨by simp [l], e, fun i d h1 => ?_, fun i s c h1 h2 => absurd h2 (noct i s c h1), fun i j a ⟨⟨s, c, h1, h2⟩, _⟩ _ => absurd h2 (noct i s c h1)⟩
  by_cases z : i < ds.length
  · rw [List.getElem?_append_left (by simpa using z), List.getElem?_map] at h1
    obtain ⟨d', h2, h3⟩ := Option.map_eq_some_iff.mp h1
    cases h3
    obtain ⟨v, q1, q2⟩ := DpAll.get h h2
    refine ⟨v, ?_, q2⟩
    rw [List.getElem?_append_left (by rw [List.length_map, l]; exact z), List.getElem?_map, q1]
    rfl
  · rw [List.getElem?_append_right (by simpa using Nat.le_of_not_lt z), List.getElem?_replicate] at h1
    split at h1
    · cases h1
    · cases h1
theorem noOw_va {σ : L2.St} {ds : List PD} {m : Nat} {i : Nat} {a : Addr} : ¬ OwAt σ (ds.map Sl.va ++ List.replicate m .un) i a := fun ⟨⟨s, c, h1, h2⟩, _⟩ => by
  by_cases z : i < ds.length
  · rw [List.getElem?_append_left (by simpa using z), List.getElem?_map] at h1
    obtain ⟨d, _, rfl⟩ := Option.map_eq_some_iff.mp h1
    cases h2
  · rw [List.getElem?_append_right (by simpa using Nat.le_of_not_lt z), List.getElem?_replicate] at h1
    split at h1
    · cases h1; cases h2
    · cases h1
section
variable {M : Md} {x : Str} {st : Stmt} {f : Addr} {fd : FuncData} {N ps : List Str} {k : Nat}
/-- THE RULE for a def that changes nothing, at its place -/
theorem fn_mk {Mf : List PD → PO → Prop} (F : Fun M.K x x st f fd) (S : FnScope N ps (defScope st)) (hl : ∀ ds o, Mf ds o → ds.length = ps.length)
    (body : ∀ (fr : Frm), Ok (fcx M N x (defScope st) f fr) (fwx fr) k → ∀ ds o, Mf ds o → FJ (fcx M N x (defScope st) f fr) (fwx fr) (defBody st) (ds.map Sl.va ++ List.replicate (N.length - ds.length) .un) o) :
    FnOk M.P M.w M.K M.mg M.base (L2.CX M.P M.w) (k + 1) f fd ps (spP M.K M.mg Mf) := by
  refine F.okX S (fun vs H Q E h => ?_) fun cdv A outer s H vs Q E hr h => ?_
  · obtain ⟨F, ds, o, h1, _, h2, _⟩ := h
    rw [DpAll.len h2]
    exact hl ds o h1
  · obtain ⟨F0, ds, o, h1, h2, h3, h4⟩ := h
    have R0 := dpAll_re (m := N.length - vs.length) h3 h2
    have el : N.length - ds.length = N.length - vs.length := by rw [DpAll.len h3]
    have fin : ∀ {σ' ρ' F' H'}, Ext (start N vs) (ds.map Sl.va ++ List.replicate (N.length - vs.length) .un) F0 H σ' ρ' F' H' → RE M.K F' H' σ' ρ' → Xt F0 H F' H' := fun x R =>
      ⟨x.ff, fun b o g => x.hh b o g fun i => noOw_va, R.fh, fun b o f g => x.nf b o f g fun i => noOw_va⟩
    have bj := body ⟨cdv, A, outer, s, H, E⟩ (ok_fcx S hr) ds o h1
    rw [el] at bj
    cases o with
    | ok r =>
      rcases bj with ⟨ρ', t, t1, t2⟩ | ⟨rfl, ρ', t, t1, t2⟩
      · exact ⟨t, t1, t2 F0 H _ _ R0 fun F' H' σ' v x R q => h4 F' H' v (fin x R) q.1⟩
      · exact ⟨t, t1, t2 F0 H _ _ R0 fun F' H' σ' x R => h4 F' H' .non (fin x R) .non⟩
    | ex n p =>
      obtain ⟨ρ', t, t1, t2⟩ := bj
      exact ⟨t, t1, t2 F0 H _ _ R0 fun F' H' σ' x R => h4 F' H' (fin x R)⟩
/-- THE RULE for a def that changes nothing -/
theorem def_mk {Mf : List PD → PO → Prop} (F : Fun M.K x x st f fd) (hm : M.mg x = some (.ref f)) (hb : Binds M.K fd ps []) (S : FnScope N ps (defScope st)) (hl : ∀ ds o, Mf ds o → ds.length = ps.length)
    (body : ∀ (fr : Frm), Ok (fcx M N x (defScope st) f fr) (fwx fr) k → ∀ ds o, Mf ds o → FJ (fcx M N x (defScope st) f fr) (fwx fr) (defBody st) (ds.map Sl.va ++ List.replicate (N.length - ds.length) .un) o) :
    Def M x (k + 1) (spP M.K M.mg Mf) := ⟨⟨f, fd, ps, hm, F.kp, hb, fn_mk F S hl body⟩⟩
end
end Pj

set_option Elab.async false
set_option linter.all false
set_option maxRecDepth 100000
namespace Pj
open PySem PySem.Spec PyProof.Rows L2

/-! ### a def whose first argument is lent -/
section
variable {M : Md} {x : Str} {st : Stmt} {f : Addr} {fd : FuncData} {N ps : List Str} {k : Nat}
def FBJ (X : Cx) (W : WX) (body : List Stmt) (ρ : En) (a : Addr) (c' : Ct) : PO → Prop
  | .ok r => (∃ ρ', ρ'[0]? = some (.br a c') ∧ BJ X W body ρ (.rt ρ' r)) ∨ (r = .va .none ∧ ∃ ρ', ρ'[0]? = some (.br a c') ∧ BJ X W body ρ (.nx ρ'))
  | .ex n p => ∃ ρ', ρ'[0]? = some (.br a c') ∧ BJ X W body ρ (.ex ρ' n p)
theorem reB {K : PySem.W.Frag} {F H : Hp} {vs : List V} {ds : List PD} {m : Nat} {a : Addr} {u : HO} {c : Ct} (h : DpAll K F vs ds) (e : Same F H) (f : F a = none) (hu : H a = some u) (cu : CtOk K F u c) :
    RE K F H (some (.ref a) :: (vs.map some ++ List.replicate m none)) (.br a c :: (ds.map Sl.va ++ List.replicate m .un)) ∧ ∀ i b, OwAt (some (.ref a) :: (vs.map some ++ List.replicate m none)) (.br a c :: (ds.map Sl.va ++ List.replicate m .un)) i b → i = 0 ∧ b = a := by
  have R := dpAll_re (m := m) h e
  have ow : ∀ i b, OwAt (some (.ref a) :: (vs.map some ++ List.replicate m none)) (.br a c :: (ds.map Sl.va ++ List.replicate m .un)) i b → i = 0 ∧ b = a := fun i b ⟨⟨s, c, h1, h2⟩, h3⟩ => by
    cases i with
    | zero => cases h3; exact ⟨rfl, rfl⟩
    | succ i => exact absurd ⟨⟨s, c, h1, h2⟩, h3⟩ (noOw_va (σ := vs.map some ++ List.replicate m none) (i := i) (a := b))
  refine ⟨⟨by rw [List.length_cons, List.length_cons, R.len], e, fun i d h1 => ?_, fun i s c h1 h2 => ?_, fun i j b h1 h2 => (ow i b h1).1.trans (ow j b h2).1.symm⟩, ow⟩
  · cases i with
    | zero => cases h1
    | succ i => exact R.va i d h1
  · cases i with
    | zero =>
      cases h1
      cases h2
      exact ⟨a, u, rfl, rfl, f, hu, cu⟩
    | succ i => exact R.ob i s c h1 h2
theorem def_mkB {Mf : Ct → List PD → Ct → PO → Prop} (F : Fun M.K x x st f fd) (hm : M.mg x = some (.ref f)) (hb : Binds M.K fd ps []) (S : FnScope N ps (defScope st)) (hl : ∀ c ds c' o, Mf c ds c' o → ds.length + 1 = ps.length)
    (body : ∀ (fr : Frm), Ok (fcx M N x (defScope st) f fr) (fwx fr) k → ∀ (a : Addr) c ds c' o, Mf c ds c' o → FBJ (fcx M N x (defScope st) f fr) (fwx fr) (defBody st) (.br a c :: (ds.map Sl.va ++ List.replicate (N.length - (ds.length + 1)) .un)) a c' o) :
    Def M x (k + 1) (spB M.K M.mg Mf) := by
  refine ⟨⟨f, fd, ps, hm, F.kp, hb, F.okX S (fun vs H Q E h => ?_) fun cdv A outer s H vs Q E hr h => ?_⟩⟩
  · obtain ⟨F, a, u, c, vs', ds, c', o, rfl, h1, _, _, _, _, h2, _⟩ := h
    rw [List.length_cons, DpAll.len h2]
    exact hl c ds c' o h1
  · obtain ⟨F0, a, u, c, vs', ds, c', o, rfl, h1, h2, hf, hu, cu, h3, h4⟩ := h
    obtain ⟨R0, ow0⟩ := reB (m := N.length - (vs'.length + 1)) h3 h2 hf hu cu
    have el : N.length - (ds.length + 1) = N.length - (vs'.length + 1) := by rw [DpAll.len h3]
    have fin : ∀ {σ' ρ' F' H'}, Ext (some (.ref a) :: (vs'.map some ++ List.replicate (N.length - (vs'.length + 1)) none)) (.br a c :: (ds.map Sl.va ++ List.replicate (N.length - (vs'.length + 1)) .un)) F0 H σ' ρ' F' H' → RE M.K F' H' σ' ρ' → ρ'[0]? = some (.br a c') → XtB a F0 H F' H' ∧ ∃ u, H' a = some u ∧ CtOk M.K F' u c' := fun {σ' ρ' F' H'} x R e => by
      obtain ⟨a', u', q1, q2, q3, q4, q5⟩ := R.ob 0 _ c' e rfl
      have ea : a = a' := q2
      subst ea
      refine ⟨⟨x.ff, fun b o g ne => x.hh b o g fun i q => ne (ow0 i b q).2, R.fh, fun b o f g => ?_⟩, u', q4, q5⟩
      by_cases z : b = a
      · subst z; exact q3
      · exact x.nf b o f g fun i q => z (ow0 i b q).2
    have st0 : L2.start N (.ref a :: vs') = some (.ref a) :: (vs'.map some ++ List.replicate (N.length - (vs'.length + 1)) none) := by
      unfold L2.start
      simp
    have bj := body ⟨cdv, A, outer, s, H, E⟩ (ok_fcx S hr) a c ds c' o h1
    rw [el] at bj
    rw [st0]
    cases o with
    | ok r =>
      rcases bj with ⟨ρ', e, t, t1, t2⟩ | ⟨rfl, ρ', e, t, t1, t2⟩
      · refine ⟨t, t1, t2 F0 H _ _ R0 fun F' H' σ' v x R q => ?_⟩
        obtain ⟨xb, u', g1, g2⟩ := fin x R e
        exact h4 F' H' v u' xb g1 g2 q.1
      · refine ⟨t, t1, t2 F0 H _ _ R0 fun F' H' σ' x R => ?_⟩
        obtain ⟨xb, u', g1, g2⟩ := fin x R e
        exact h4 F' H' .non u' xb g1 g2 .non
    | ex n p =>
      obtain ⟨ρ', e, t, t1, t2⟩ := bj
      refine ⟨t, t1, t2 F0 H _ _ R0 fun F' H' σ' x R => ?_⟩
      obtain ⟨xb, u', g1, g2⟩ := fin x R e
      exact h4 F' H' u' xb g1 g2
end

/-! ### the operators' values -/
section
variable {K : PySem.W.Frag} {i j : Int} {d x y : PD} {ds es : List PD} {z : Rs}
theorem p2_I0 {g : Int → Int → Int} : P2 K (rI0 fun i j => .int (g i j)) (.int i) (.int j) (.va (.int (g i j))) := fun F H vx vy Q e hx hy q => by
  cases hx; cases hy
  exact ⟨i, j, rfl, rfl, q F H _ (Xt.refl e) (.int _)⟩
theorem p2_I {C : Int → Int → Prop} {g : Int → Int → Int} (hc : C i j) : P2 K (rI C fun i j => .int (g i j)) (.int i) (.int j) (.va (.int (g i j))) := fun F H vx vy Q e hx hy q => by
  cases hx; cases hy
  exact ⟨i, j, rfl, rfl, hc, q F H _ (Xt.refl e) (.int _)⟩
theorem p2_B0 {g : Int → Int → Bool} : P2 K (rI0 fun i j => .bl (g i j)) (.int i) (.int j) (.va (.bool (g i j))) := fun F H vx vy Q e hx hy q => by
  cases hx; cases hy
  exact ⟨i, j, rfl, rfl, q F H _ (Xt.refl e) (.bl _)⟩
theorem p2_eqD (h1 : SeqAt.shaped x = true) (h2 : SeqAt.shaped y = true) : P2 K (rEqD K) x y (.va (.bool (PyData.eqv x y))) := fun F H vx vy Q e hx hy q => ⟨x, y, Dp.mono hx e, Dp.mono hy e, h1, h2, q F H _ (Xt.refl e) (.bl _)⟩
theorem p2_neD (h1 : SeqAt.shaped x = true) (h2 : SeqAt.shaped y = true) : P2 K (rNeD K) x y (.va (.bool (!PyData.eqv x y))) := fun F H vx vy Q e hx hy q => ⟨x, y, Dp.mono hx e, Dp.mono hy e, h1, h2, q F H _ (Xt.refl e) (.bl _)⟩
def isN : PD → Bool
  | .none => true
  | _ => false
theorem dp_isN {F : Hp} {v : V} (h : Dp K F v d) : decide (v = .non) = isN d := by cases h <;> rfl
theorem p2_isN : P2 K (fun x y H Q => y = .non ∧ Q (.bl (decide (x = .non))) H) d .none (.va (.bool (isN d))) := fun F H vx vy Q e hx hy q => by
  cases hy
  rw [dp_isN hx]
  exact ⟨rfl, q F H _ (Xt.refl e) (.bl _)⟩
theorem p2_notN : P2 K (fun x y H Q => y = .non ∧ Q (.bl (!decide (x = .non))) H) d .none (.va (.bool (!isN d))) := fun F H vx vy Q e hx hy q => by
  cases hy
  rw [dp_isN hx]
  exact ⟨rfl, q F H _ (Xt.refl e) (.bl _)⟩
theorem p2_catA (hz : ds.length + es.length ≤ sizeLine) : P2 K (rCatA K) (.tuple ds) (.tuple es) (.va (.tuple (ds ++ es))) := fun F H vx vy Q e hx hy q => by
  cases hx with
  | @tup a vs _ h1 h2 =>
    cases hy with
    | @tup b ws _ g1 g2 =>
      refine ⟨a, b, vs, ws, rfl, rfl, Same.seqT e h1, Same.seqT e g1, by rw [DpAll.len h2, DpAll.len g2]; exact hz, fun z => ?_, fun z w => ?_, fun z w p np => ?_⟩
      · subst z
        cases h2
        exact q F H _ (Xt.refl e) (.tup g1 g2)
      · subst w
        cases g2
        rw [List.append_nil] at q
        exact q F H _ (Xt.refl e) (.tup h1 h2)
      · exact q _ _ _ (Xt.frz e np) (.tup (SqT.of upd_same) (DpAll.mono (DpAll.append h2 g2) (Xt.frz e np).ff))
theorem atI_dp {F : Hp} {vs : List V} (h : DpAll K F vs ds) (hj : atI ds j = some d) : ∃ v, atI vs j = some v ∧ Dp K F v d := by
  unfold atI at hj ⊢
  rw [DpAll.len h]
  cases hk : ixN ds.length j with
  | none => rw [hk] at hj; cases hj
  | some k =>
    rw [hk] at hj
    exact DpAll.get h hj
theorem p2_ixL (h : atI ds j = some d) : P2 K (rIxL K) (.list ds) (.int j) (.va d) := fun F H vx vy Q e hx hy q => by
  cases hy
  cases hx with
  | lst h1 h2 =>
    obtain ⟨v, g1, g2⟩ := atI_dp h2 h
    exact ⟨_, _, j, v, rfl, rfl, Same.seq e h1, g1, q F H _ (Xt.refl e) g2⟩
theorem p2_ixT (h : atI ds j = some d) : P2 K (rIxT K) (.tuple ds) (.int j) (.va d) := fun F H vx vy Q e hx hy q => by
  cases hy
  cases hx with
  | tup h1 h2 =>
    obtain ⟨v, g1, g2⟩ := atI_dp h2 h
    exact ⟨_, _, j, v, rfl, rfl, Same.seqT e h1, g1, q F H _ (Xt.refl e) g2⟩
theorem p1_U {g : Int → Int} : P1 K (rU fun i => .int (g i)) (.int i) (.va (.int (g i))) := fun F H vx Q e hx q => by
  cases hx
  exact ⟨i, rfl, q F H _ (Xt.refl e) (.int _)⟩
theorem pc_len {ds : List PD} {t : PD} (h : t = .list ds ∨ t = .tuple ds) : PC K (fun xs H Q => ∃ p ys, xs = [.ref p] ∧ (SqL K H p ys ∨ SqT K H p ys) ∧ Q (.int ys.length) H) [t] (.va (.int ds.length)) := fun F H vs Q e hx q => by
  cases hx with
  | cons r hx =>
    cases hx
    rcases h with rfl | rfl
    · cases r with
      | lst h1 h2 => exact ⟨_, _, rfl, .inl (Same.seq e h1), by rw [DpAll.len h2]; exact q F H _ (Xt.refl e) (.int _)⟩
    · cases r with
      | tup h1 h2 => exact ⟨_, _, rfl, .inr (Same.seqT e h1), by rw [DpAll.len h2]; exact q F H _ (Xt.refl e) (.int _)⟩
theorem pc_max2 : PC K (fun xs H Q => ∃ i j, xs = [.int i, .int j] ∧ Q (.int (if j > i then j else i)) H) [.int i, .int j] (.va (.int (max i j))) := fun F H vs Q e hx q => by
  cases hx with
  | cons r hx =>
    cases r
    cases hx with
    | cons r hx =>
      cases r
      cases hx
      have : (if j > i then j else i) = max i j := by
        split <;> omega
      exact ⟨i, j, rfl, by rw [this]; exact q F H _ (Xt.refl e) (.int _)⟩
theorem pc_min2 : PC K (fun xs H Q => ∃ i j, xs = [.int i, .int j] ∧ Q (.int (if j < i then j else i)) H) [.int i, .int j] (.va (.int (min i j))) := fun F H vs Q e hx q => by
  cases hx with
  | cons r hx =>
    cases r
    cases hx with
    | cons r hx =>
      cases r
      cases hx
      have : (if j < i then j else i) = min i j := by
        split <;> omega
      exact ⟨i, j, rfl, by rw [this]; exact q F H _ (Xt.refl e) (.int _)⟩
theorem pc_sumL {ns : List Int} : PC K (rSum K) [.list (ns.map .int)] (.va (.int ns.sum)) := fun F H vs Q e hx q => by
  cases hx with
  | cons r hx =>
    cases hx
    cases r with
    | lst h1 h2 =>
      rw [DpAll.ints h2] at h1
      exact ⟨_, ns, rfl, Same.seq e h1, q F H _ (Xt.refl e) (.int _)⟩
theorem pc_all {ns : List Bool} : PC K (rAll K) [.list (ns.map .bool)] (.va (.bool (ns.all id))) := fun F H vs Q e hx q => by
  cases hx with
  | cons r hx =>
    cases hx
    cases r with
    | lst h1 h2 =>
      rw [DpAll.bls h2] at h1
      exact ⟨_, ns, rfl, Same.seq e h1, q F H _ (Xt.refl e) (.bl _)⟩
theorem pc_any {ns : List Bool} : PC K (rAny K) [.list (ns.map .bool)] (.va (.bool (ns.any id))) := fun F H vs Q e hx q => by
  cases hx with
  | cons r hx =>
    cases hx
    cases r with
    | lst h1 h2 =>
      rw [DpAll.bls h2] at h1
      exact ⟨_, ns, rfl, Same.seq e h1, q F H _ (Xt.refl e) (.bl _)⟩
theorem pc_tupL : PC K (fun xs H Q => ∃ p ys, xs = [.ref p] ∧ ((SqL K H p ys ∧ ∀ l, H l = none → Q (.ref l) (upd H l (.tup ys))) ∨ (SqT K H p ys ∧ Q (.ref p) H))) [.list ds] (.va (.tuple ds)) := fun F H vs Q e hx q => by
  cases hx with
  | cons r hx =>
    cases hx
    cases r with
    | lst h1 h2 => exact ⟨_, _, rfl, .inl ⟨Same.seq e h1, fun p np => q _ _ _ (Xt.frz e np) (.tup (SqT.of upd_same) (DpAll.mono h2 (Xt.frz e np).ff))⟩⟩
theorem pc_tupT : PC K (fun xs H Q => ∃ p ys, xs = [.ref p] ∧ ((SqL K H p ys ∧ ∀ l, H l = none → Q (.ref l) (upd H l (.tup ys))) ∨ (SqT K H p ys ∧ Q (.ref p) H))) [.tuple ds] (.va (.tuple ds)) := fun F H vs Q e hx q => by
  cases hx with
  | cons r hx =>
    cases hx
    cases r with
    | tup h1 h2 => exact ⟨_, _, rfl, .inr ⟨Same.seqT e h1, q F H _ (Xt.refl e) (.tup h1 h2)⟩⟩
theorem pc_lstOf {t : PD} (h : t = .list ds ∨ t = .tuple ds) : PC K (fun xs H Q => ∃ p ys, xs = [.ref p] ∧ (SqL K H p ys ∨ SqT K H p ys) ∧ ∀ l, H l = none → Q (.ref l) (upd H l (.lst ys))) [t] (.ow (.lst ds)) := fun F H vs Q e hx q => by
  cases hx with
  | cons r hx =>
    cases hx
    rcases h with rfl | rfl
    · cases r with
      | lst h1 h2 => exact ⟨_, _, rfl, .inl (Same.seq e h1), fun p np => q _ _ _ (Xt.own e np) ⟨p, _, rfl, Same.free e np, upd_same, h2, np⟩⟩
    · cases r with
      | tup h1 h2 => exact ⟨_, _, rfl, .inr (Same.seqT e h1), fun p np => q _ _ _ (Xt.own e np) ⟨p, _, rfl, Same.free e np, upd_same, h2, np⟩⟩
theorem pc_intB {b : Bool} : PC K (fun xs H Q => (∃ i, xs = [.int i] ∧ Q (.int i) H) ∨ ∃ k, xs = [.bl k] ∧ Q (.int (if k then 1 else 0)) H) [.bool b] (.va (.int (if b then 1 else 0))) := fun F H vs Q e hx q => by
  cases hx with
  | cons r hx =>
    cases hx
    cases r
    exact .inr ⟨b, rfl, q F H _ (Xt.refl e) (.int _)⟩
/-- x in xs, xs a tuple or list of plain things -/
def flatD : PD → Bool
  | .none => true
  | .bool _ => true
  | .int _ => true
  | .str _ => true
  | _ => false
end

/-! ### calls of built-ins -/
section
variable {X : Cx} {W : WX} {lv : Nat} {e a b : Expr} {es : List Expr} {ρ ρ1 ρ2 : En} {ds : List PD} {d : PD} {z : Rs} {n : Str} {p pos : Pos} {id T : String} {r : List V → Hp → VK → Prop}
theorem ej_blt (hc : CallR X (.builtin id) r) (hm : X.mg n = none) (ha : AJ X W (e :: es) ρ ρ1 ds) (hp : PC X.K r ds z) (hv : bootBuiltins n = some (.builtin id) := by decide +kernel) (hg : Gl X n := by rfl) (hn : n ≠ "__name__" := by decide) (hdb : (n == ("__debug__" : Str)) = false := by decide)
    (he : starEach (e :: es) X.env = (false, eval e X.env) :: starEach es X.env := by rfl) (hpl : (backTo pos (starEach es X.env)).any (·.1) = false := by rfl) : EJ X W (.Call (.Name n p) (e :: es) [] pos) ρ (.ok ρ1 z) := by
  obtain ⟨t, a1, a2⟩ := ha
  refine ⟨_, pe_callB hc hg hm hv a1 hn hdb he hpl, fun F H σ Q R h => a2 F H σ _ R fun F1 H1 vs x1 R1 q1 => ?_⟩
  exact hp F1 H1 vs Q R1.fh q1 fun F' H' v t q => (h.pull x1).fin R1 t q
theorem ej_bty (hc : CallR X (.type T) r) (hm : X.mg n = none) (ha : AJ X W (e :: es) ρ ρ1 ds) (hp : PC X.K r ds z) (hv : bootBuiltins n = some (.type T) := by decide +kernel) (hg : Gl X n := by rfl) (hn : n ≠ "__name__" := by decide) (hdb : (n == ("__debug__" : Str)) = false := by decide)
    (he : starEach (e :: es) X.env = (false, eval e X.env) :: starEach es X.env := by rfl) (hpl : (backTo pos (starEach es X.env)).any (·.1) = false := by rfl) : EJ X W (.Call (.Name n p) (e :: es) [] pos) ρ (.ok ρ1 z) := by
  obtain ⟨t, a1, a2⟩ := ha
  refine ⟨_, pe_callTy hc hg hm hv a1 hn hdb he hpl, fun F H σ Q R h => a2 F H σ _ R fun F1 H1 vs x1 R1 q1 => ?_⟩
  exact hp F1 H1 vs Q R1.fh q1 fun F' H' v t q => (h.pull x1).fin R1 t q
/-- the type of plain data -/
def tyD : PD → String
  | .none => "NoneType"
  | .bool _ => "bool"
  | .int _ => "int"
  | .str _ => "str"
  | .list _ => "list"
  | .tuple _ => "tuple"
  | .dict _ => "dict"
theorem dp_tyX {K : PySem.W.Frag} {F H : Hp} {v : V} (h : Dp K F v d) (e : Same F H) : TyX K H v (.type (tyD d)) := by
  cases h with
  | non => exact .base .non
  | bl b => exact .base (.bl b)
  | int i => exact .base (.int i)
  | str s => exact .base (.str s)
  | lst hs _ =>
    rcases Same.seq e hs with (h | ⟨o, h⟩) | ⟨o, its, m, h1, h2, _⟩
    · exact .base (.lst h)
    · exact .base (.frz h)
    · exact .kList h1 h2
  | tup hs _ =>
    rcases Same.seqT e hs with (h | ⟨o, h⟩) | ⟨o, its, m, h1, h2, _⟩
    · exact .base (.tup h)
    · exact .fTuple h
    · exact .kTuple h1 h2
def isInt : PD → Bool
  | .int _ => true
  | .bool _ => true
  | _ => false
def isBool : PD → Bool
  | .bool _ => true
  | _ => false
def isStr : PD → Bool
  | .str _ => true
  | _ => false
def isTup : PD → Bool
  | .tuple _ => true
  | _ => false
def isLst : PD → Bool
  | .list _ => true
  | _ => false
theorem ej_isi {m : Str} {pm : Pos} {k : Bool} (hm : X.mg "isinstance" = none) (hm2 : X.mg m = none) (ha : EJ X W a ρ (.ok ρ1 (.va d))) (hk : kitB (tyD d) T = some k) (hv2 : bootBuiltins m = some (.type T) := by decide +kernel) (hg : Gl X "isinstance" := by rfl) (hg2 : Gl X m := by rfl) (hn2 : m ≠ "__name__" := by decide) (hdb2 : (m == ("__debug__" : Str)) = false := by decide)
    (he : starEach [a, .Name m pm] X.env = (false, eval a X.env) :: starEach [.Name m pm] X.env := by rfl) (he2 : starEach [.Name m pm] X.env = (false, eval (.Name m pm) X.env) :: starEach [] X.env := by rfl) (hpl : (backTo pos (starEach [.Name m pm] X.env)).any (·.1) = false := by rfl) :
    EJ X W (.Call (.Name "isinstance" p) [a, .Name m pm] [] pos) ρ (.ok ρ1 (.va (.bool k))) := by
  obtain ⟨t, a1, a2⟩ := ha
  refine ⟨_, pe_callB call_isi hg hm (by decide +kernel) (pa_cons a1 (pa_cons (pe_bltn (v := .ty T) hg2 hm2 hv2 rfl hn2 hdb2) pa_nil he2) he) (by decide) (by decide) he hpl, fun F H σ Q R h => a2 F H σ _ R fun F1 H1 v x1 R1 q1 => ?_⟩
  exact ⟨v, .ty T, .type (tyD d), .type T, k, rfl, .ty T, dp_tyX q1.1 R1.fh, kit_ty hk, (h.pull x1).fin R1 (Xt.refl R1.fh) (.bl k)⟩
theorem kit_int (d : PD) : kitB (tyD d) "int" = some (isInt d) := by
  cases d with
  | none => exact (show kitB "NoneType" "int" = some false by decide +kernel)
  | bool _ => exact (show kitB "bool" "int" = some true by decide +kernel)
  | int _ => exact (show kitB "int" "int" = some true by decide +kernel)
  | str _ => exact (show kitB "str" "int" = some false by decide +kernel)
  | list _ => exact (show kitB "list" "int" = some false by decide +kernel)
  | tuple _ => exact (show kitB "tuple" "int" = some false by decide +kernel)
  | dict _ => exact (show kitB "dict" "int" = some false by decide +kernel)
theorem kit_bool (d : PD) : kitB (tyD d) "bool" = some (isBool d) := by
  cases d with
  | none => exact (show kitB "NoneType" "bool" = some false by decide +kernel)
  | bool _ => exact (show kitB "bool" "bool" = some true by decide +kernel)
  | int _ => exact (show kitB "int" "bool" = some false by decide +kernel)
  | str _ => exact (show kitB "str" "bool" = some false by decide +kernel)
  | list _ => exact (show kitB "list" "bool" = some false by decide +kernel)
  | tuple _ => exact (show kitB "tuple" "bool" = some false by decide +kernel)
  | dict _ => exact (show kitB "dict" "bool" = some false by decide +kernel)
theorem kit_str (d : PD) : kitB (tyD d) "str" = some (isStr d) := by
  cases d with
  | none => exact (show kitB "NoneType" "str" = some false by decide +kernel)
  | bool _ => exact (show kitB "bool" "str" = some false by decide +kernel)
  | int _ => exact (show kitB "int" "str" = some false by decide +kernel)
  | str _ => exact (show kitB "str" "str" = some true by decide +kernel)
  | list _ => exact (show kitB "list" "str" = some false by decide +kernel)
  | tuple _ => exact (show kitB "tuple" "str" = some false by decide +kernel)
  | dict _ => exact (show kitB "dict" "str" = some false by decide +kernel)
theorem kit_tuple (d : PD) : kitB (tyD d) "tuple" = some (isTup d) := by
  cases d with
  | none => exact (show kitB "NoneType" "tuple" = some false by decide +kernel)
  | bool _ => exact (show kitB "bool" "tuple" = some false by decide +kernel)
  | int _ => exact (show kitB "int" "tuple" = some false by decide +kernel)
  | str _ => exact (show kitB "str" "tuple" = some false by decide +kernel)
  | list _ => exact (show kitB "list" "tuple" = some false by decide +kernel)
  | tuple _ => exact (show kitB "tuple" "tuple" = some true by decide +kernel)
  | dict _ => exact (show kitB "dict" "tuple" = some false by decide +kernel)
theorem kit_list (d : PD) : kitB (tyD d) "list" = some (isLst d) := by
  cases d with
  | none => exact (show kitB "NoneType" "list" = some false by decide +kernel)
  | bool _ => exact (show kitB "bool" "list" = some false by decide +kernel)
  | int _ => exact (show kitB "int" "list" = some false by decide +kernel)
  | str _ => exact (show kitB "str" "list" = some false by decide +kernel)
  | list _ => exact (show kitB "list" "list" = some true by decide +kernel)
  | tuple _ => exact (show kitB "tuple" "list" = some false by decide +kernel)
  | dict _ => exact (show kitB "dict" "list" = some false by decide +kernel)
end

/-! ### raise -/
section
variable {X : Cx} {W : WX} {lv : Nat} {ρ : En} {pos p p2 pos2 : Pos} {n m : Str} {j : Nat}
/-- an own exception class without __init__ over ValueError -/
structure ExcC (K : PySem.W.Frag) (mg : Str → Option Value) (n : Str) : Prop where
  ex : ∃ C, mg n = some (.ref C) ∧ PySem.W.excIn K C [.type "ValueError", .type "Exception", .type "BaseException", .type "object"] "ValueError.__new__" = true ∧ PySem.W.keepIn K (.ref C) = true ∧
    PySem.W.subIn K (.ref C) (.type "BaseException") = some true ∧ PySem.W.typeIn K (.ref C) = some (.type "type")
theorem sj_raise (C : Ok X W lv) (hx : ExcC X.K X.mg n) (hg : Gl X n := by rfl) (hdb : (n == ("__debug__" : Str)) = false := by decide) : SJ X W (.Raise (some (.Call (.Name n p) [.Constant (.str m) j p2] [] pos2)) none pos) ρ (.ex ρ n none) := by
  obtain ⟨c, h1, h2, h3, h4, h5⟩ := hx.ex
  refine ⟨_, ps_raise C.calm C.takes (pmk_own PySem.F.excBase_ValueError h2 h1 h3 (raises_own h4 h5) hg hdb), fun F H σ D R q => ?_⟩
  exact q F H σ Ext.refl R c h1
end
end Pj
namespace Pj
open PySem PySem.Spec PyProof.Rows L2
section
variable {X : Cx} {W : WX} {body : List Stmt} {ρ ρ' : En} {r : Rs} {n : Str} {p : Option (Str × PD)} {a : Addr} {c' : Ct}
theorem fj_rt {r0 : Rs} (h : BJ X W body ρ (.rt ρ' r)) (e : r = r0 := by rfl) : FJ X W body ρ (.ok r0) := .inl ⟨ρ', e ▸ h⟩
theorem fj_nx (h : BJ X W body ρ (.nx ρ')) : FJ X W body ρ (.ok (.va .none)) := .inr ⟨rfl, ρ', h⟩
theorem fj_ex (h : BJ X W body ρ (.ex ρ' n p)) : FJ X W body ρ (.ex n p) := ⟨ρ', h⟩
theorem fbj_rt {r0 : Rs} (h : BJ X W body ρ (.rt ρ' r)) (e2 : r = r0 := by rfl) (e : ρ'[0]? = some (.br a c') := by rfl) : FBJ X W body ρ a c' (.ok r0) := .inl ⟨ρ', e, e2 ▸ h⟩
theorem fbj_nx (h : BJ X W body ρ (.nx ρ')) (e : ρ'[0]? = some (.br a c') := by rfl) : FBJ X W body ρ a c' (.ok (.va .none)) := .inr ⟨rfl, ρ', e, h⟩
end
end Pj
namespace Pj
open PySem PySem.Spec PyProof.Rows L2
section
variable {X : Cx} {W : WX} {lv : Nat} {a b c : Expr} {ρ ρ1 ρ2 : En} {x y : PD} {u v : Int} {k : Bool} {pos : Pos}
theorem ej_ifI (h : TJ X W c ρ ρ1 k) (ha : k = true → EJ X W a ρ1 (.ok ρ2 (.va (.int u)))) (hb : k = false → EJ X W b ρ1 (.ok ρ2 (.va (.int v)))) : EJ X W (.IfExp c a b pos) ρ (.ok ρ2 (.va (.int (if k then u else v)))) := by
  cases k with
  | true => exact ej_if h ha fun z => nomatch z
  | false => exact ej_if h (fun z => nomatch z) hb
theorem ej_ifV (h : TJ X W c ρ ρ1 k) (ha : k = true → EJ X W a ρ1 (.ok ρ2 (.va x))) (hb : k = false → EJ X W b ρ1 (.ok ρ2 (.va y))) : EJ X W (.IfExp c a b pos) ρ (.ok ρ2 (.va (if k then x else y))) := by
  cases k with
  | true => exact ej_if h ha fun z => nomatch z
  | false => exact ej_if h (fun z => nomatch z) hb
theorem tj_eq (C : Ok X W lv) (ha : EJ X W a ρ (.ok ρ1 (.va x))) (hb : EJ X W b ρ1 (.ok ρ2 (.va y))) (hk : PyData.eqv x y = k := by rfl) (h1 : SeqAt.shaped x = true := by rfl) (h2 : SeqAt.shaped y = true := by rfl) : TJ X W (.Compare a [.Eq] [b] pos) ρ ρ2 k :=
  hk ▸ tj_cmp (op_eqD C.room.units) ha hb (p2_eqD h1 h2)
theorem tj_ne (C : Ok X W lv) (ha : EJ X W a ρ (.ok ρ1 (.va x))) (hb : EJ X W b ρ1 (.ok ρ2 (.va y))) (hk : PyData.eqv x y = k := by rfl) (h1 : SeqAt.shaped x = true := by rfl) (h2 : SeqAt.shaped y = true := by rfl) : TJ X W (.Compare a [.NotEq] [b] pos) ρ ρ2 (!k) :=
  hk ▸ tj_cmp (op_neD C.room.units) ha hb (p2_neD h1 h2)
theorem ej_eq (C : Ok X W lv) (ha : EJ X W a ρ (.ok ρ1 (.va x))) (hb : EJ X W b ρ1 (.ok ρ2 (.va y))) (hk : PyData.eqv x y = k := by rfl) (h1 : SeqAt.shaped x = true := by rfl) (h2 : SeqAt.shaped y = true := by rfl) : EJ X W (.Compare a [.Eq] [b] pos) ρ (.ok ρ2 (.va (.bool k))) :=
  hk ▸ ej_cmp (op_eqD C.room.units) ha hb (p2_eqD h1 h2)
theorem ej_ne (C : Ok X W lv) (ha : EJ X W a ρ (.ok ρ1 (.va x))) (hb : EJ X W b ρ1 (.ok ρ2 (.va y))) (hk : PyData.eqv x y = k := by rfl) (h1 : SeqAt.shaped x = true := by rfl) (h2 : SeqAt.shaped y = true := by rfl) : EJ X W (.Compare a [.NotEq] [b] pos) ρ (.ok ρ2 (.va (.bool (!k)))) :=
  hk ▸ ej_cmp (op_neD C.room.units) ha hb (p2_neD h1 h2)
end
end Pj

set_option Elab.async false
set_option linter.all false
set_option maxRecDepth 100000
namespace Pj
open PySem PySem.Spec PyProof.Rows L2

/-! ### a body that leaves: what it hands back -/
/-- by a return or a raise -/
def RJ (X : Cx) (W : WX) (body : List Stmt) (ρ : En) : PO → Prop
  | .ok r => ∃ ρ', BJ X W body ρ (.rt ρ' r)
  | .ex n p => ∃ ρ', BJ X W body ρ (.ex ρ' n p)
section
variable {X : Cx} {W : WX} {lv : Nat} {body ta tb rest : List Stmt} {st : Stmt} {ρ ρ1 ρ2 : En} {r : Rs} {n : Str} {p : Option (Str × PD)} {o : PO} {k : Bool} {c e : Expr} {pos : Pos}
theorem RJ.fj (h : RJ X W body ρ o) : FJ X W body ρ o := by
  cases o with
  | ok r => exact .inl h
  | ex n p => exact h
theorem fj_cons (h : SJ X W st ρ (.nx ρ1)) (g : FJ X W rest ρ1 o) : FJ X W (st :: rest) ρ o := by
  cases o with
  | ok r =>
    rcases g with ⟨ρ', g⟩ | ⟨e, ρ', g⟩
    · exact .inl ⟨ρ', bj_cons h g⟩
    · exact .inr ⟨e, ρ', bj_cons h g⟩
  | ex n p =>
    obtain ⟨ρ', g⟩ := g
    exact ⟨ρ', bj_cons h g⟩
theorem rj_cons (h : SJ X W st ρ (.nx ρ1)) (g : RJ X W rest ρ1 o) : RJ X W (st :: rest) ρ o := by
  cases o with
  | ok r =>
    obtain ⟨ρ', g⟩ := g
    exact ⟨ρ', bj_cons h g⟩
  | ex n p =>
    obtain ⟨ρ', g⟩ := g
    exact ⟨ρ', bj_cons h g⟩
theorem fj_ret (he : EJ X W e ρ (.ok ρ1 r)) (ho : o = .ok r := by rfl) : FJ X W (.Return (some e) pos :: rest) ρ o := by
  subst ho
  exact .inl ⟨ρ1, bj_out (sj_ret he)⟩
theorem rj_ret (he : EJ X W e ρ (.ok ρ1 r)) (ho : o = .ok r := by rfl) : RJ X W (.Return (some e) pos :: rest) ρ o := by
  subst ho
  exact ⟨ρ1, bj_out (sj_ret he)⟩
theorem sj_raiseE (h : SJ X W st ρ (.ex ρ1 n p)) (ho : o = .ex n p := by rfl) : RJ X W (st :: rest) ρ o := by
  subst ho
  exact ⟨ρ1, bj_out h⟩
theorem fj_ifR (hc : TJ X W c ρ ρ1 k) (h1 : k = true → RJ X W ta ρ1 o) (h2 : k = false → FJ X W rest ρ1 o) : FJ X W (.If c ta [] pos :: rest) ρ o := by
  cases k with
  | true =>
    cases o with
    | ok r =>
      obtain ⟨ρ', g⟩ := h1 rfl
      exact .inl ⟨ρ', bj_out (sj_if hc (fun _ => g) fun z => nomatch z)⟩
    | ex n p =>
      obtain ⟨ρ', g⟩ := h1 rfl
      exact ⟨ρ', bj_out (sj_if hc (fun _ => g) fun z => nomatch z)⟩
  | false => exact fj_cons (sj_if hc (fun z => nomatch z) fun _ => bj_nil) (h2 rfl)
theorem rj_ifR (hc : TJ X W c ρ ρ1 k) (h1 : k = true → RJ X W ta ρ1 o) (h2 : k = false → RJ X W rest ρ1 o) : RJ X W (.If c ta [] pos :: rest) ρ o := by
  cases k with
  | true =>
    cases o with
    | ok r =>
      obtain ⟨ρ', g⟩ := h1 rfl
      exact ⟨ρ', bj_out (sj_if hc (fun _ => g) fun z => nomatch z)⟩
    | ex n p =>
      obtain ⟨ρ', g⟩ := h1 rfl
      exact ⟨ρ', bj_out (sj_if hc (fun _ => g) fun z => nomatch z)⟩
  | false => exact rj_cons (sj_if hc (fun z => nomatch z) fun _ => bj_nil) (h2 rfl)
theorem fj_ifT (hc : TJ X W c ρ ρ1 k) (hk : k = true) (h1 : RJ X W ta ρ1 o) : FJ X W (.If c ta tb pos :: rest) ρ o := by
  subst hk
  cases o with
  | ok r =>
    obtain ⟨ρ', g⟩ := h1
    exact .inl ⟨ρ', bj_out (sj_if hc (fun _ => g) fun z => nomatch z)⟩
  | ex n p =>
    obtain ⟨ρ', g⟩ := h1
    exact ⟨ρ', bj_out (sj_if hc (fun _ => g) fun z => nomatch z)⟩
theorem rj_ifT (hc : TJ X W c ρ ρ1 k) (hk : k = true) (h1 : RJ X W ta ρ1 o) : RJ X W (.If c ta tb pos :: rest) ρ o := by
  subst hk
  cases o with
  | ok r =>
    obtain ⟨ρ', g⟩ := h1
    exact ⟨ρ', bj_out (sj_if hc (fun _ => g) fun z => nomatch z)⟩
  | ex n p =>
    obtain ⟨ρ', g⟩ := h1
    exact ⟨ρ', bj_out (sj_if hc (fun _ => g) fun z => nomatch z)⟩
theorem fj_ifF (hc : TJ X W c ρ ρ1 k) (hk : k = false) (h2 : FJ X W rest ρ1 o) : FJ X W (.If c ta [] pos :: rest) ρ o := by
  subst hk
  exact fj_cons (sj_if hc (fun z => nomatch z) fun _ => bj_nil) h2
theorem rj_ifF (hc : TJ X W c ρ ρ1 k) (hk : k = false) (h2 : RJ X W rest ρ1 o) : RJ X W (.If c ta [] pos :: rest) ρ o := by
  subst hk
  exact rj_cons (sj_if hc (fun z => nomatch z) fun _ => bj_nil) h2
theorem sj_ifT (hc : TJ X W c ρ ρ1 k) {o1 : SO} (h1 : BJ X W ta ρ1 o1) (hk : k = true := by rfl) : SJ X W (.If c ta tb pos) ρ o1 := by
  subst hk
  exact sj_if hc (fun _ => h1) fun z => nomatch z
theorem sj_ifF (hc : TJ X W c ρ ρ1 k) {o1 : SO} (h1 : BJ X W tb ρ1 o1) (hk : k = false := by rfl) : SJ X W (.If c ta tb pos) ρ o1 := by
  subst hk
  exact sj_if hc (fun z => nomatch z) fun _ => h1
def Goes (X : Cx) (W : WX) (rest : List Stmt) (o : PO) : SO → Prop
  | .nx ρ2 => FJ X W rest ρ2 o
  | .rt _ r => o = .ok r
  | .ex _ n p => o = .ex n p
  | _ => False
def GoesR (X : Cx) (W : WX) (rest : List Stmt) (o : PO) : SO → Prop
  | .nx ρ2 => RJ X W rest ρ2 o
  | .rt _ r => o = .ok r
  | .ex _ n p => o = .ex n p
  | _ => False
theorem fj_st {o1 : SO} (h : SJ X W st ρ o1) (g : Goes X W rest o o1) : FJ X W (st :: rest) ρ o := by
  cases o1 with
  | nx ρ2 => exact fj_cons h g
  | rt ρ' r =>
    have e : o = .ok r := g
    subst e
    exact .inl ⟨ρ', bj_out h⟩
  | ex ρ' n p =>
    have e : o = .ex n p := g
    subst e
    exact ⟨ρ', bj_out h⟩
  | bk _ => exact g.elim
  | ct _ => exact g.elim
theorem rj_st {o1 : SO} (h : SJ X W st ρ o1) (g : GoesR X W rest o o1) : RJ X W (st :: rest) ρ o := by
  cases o1 with
  | nx ρ2 => exact rj_cons h g
  | rt ρ' r =>
    have e : o = .ok r := g
    subst e
    exact ⟨ρ', bj_out h⟩
  | ex ρ' n p =>
    have e : o = .ex n p := g
    subst e
    exact ⟨ρ', bj_out h⟩
  | bk _ => exact g.elim
  | ct _ => exact g.elim
theorem fj_end (ho : o = .ok (.va .none) := by rfl) : FJ X W [] ρ o := by
  subst ho
  exact .inr ⟨rfl, ρ, bj_nil⟩
/-- if .. else .., both go on -/
theorem sj_ifB (hc : TJ X W c ρ ρ1 k) (h1 : k = true → BJ X W ta ρ1 (.nx ρ2)) (h2 : k = false → BJ X W tb ρ1 (.nx ρ2)) : SJ X W (.If c ta tb pos) ρ (.nx ρ2) := sj_if hc h1 h2
end

/-! ### operators by what they are given -/
def OpOk (X : Cx) (op : Operator) (x y : PD) (z : Rs) : Prop := ∃ r, OpR X (binaryOp op) r ∧ P2 X.K r x y z
section
variable {X : Cx} {W : WX} {lv : Nat} {a b c e : Expr} {ρ ρ1 ρ2 : En} {x y d : PD} {z : Rs} {i j : Int} {ds es : List PD} {pos : Pos} {k : Bool}
theorem add_ii : OpOk X .Add (.int i) (.int j) (.va (.int (i + j))) := ⟨_, op_add, p2_I0⟩
theorem add_tt (h : ds.length + es.length ≤ sizeLine) : OpOk X .Add (.tuple ds) (.tuple es) (.va (.tuple (ds ++ es))) := ⟨_, op_catA, p2_catA h⟩
theorem sub_ii : OpOk X .Sub (.int i) (.int j) (.va (.int (i - j))) := ⟨_, op_sub, p2_I0⟩
theorem mul_ii (h : CMul i j) : OpOk X .Mult (.int i) (.int j) (.va (.int (i * j))) := ⟨_, op_mul, p2_I h⟩
theorem fdiv_ii (h : CDiv i j) : OpOk X .FloorDiv (.int i) (.int j) (.va (.int (i / j))) := ⟨_, op_fdiv, p2_I h⟩
theorem fdivW_ii (h : CDivW i j) : OpOk X .FloorDiv (.int i) (.int j) (.va (.int (i / j))) := ⟨_, op_fdivW, p2_I h⟩
theorem mod_ii (h : 0 < j) : OpOk X .Mod (.int i) (.int j) (.va (.int (i % j))) := ⟨_, op_mod, p2_I (C := fun _ j => 0 < j) h⟩
theorem pow_ii (h : CPow i j) : OpOk X .Pow (.int i) (.int j) (.va (.int (i ^ j.toNat))) := ⟨_, op_pow, p2_I (g := fun i j => i ^ j.toNat) h⟩
theorem ej_bin {op : Operator} (ha : EJ X W a ρ (.ok ρ1 (.va x))) (hb : EJ X W b ρ1 (.ok ρ2 (.va y))) (h : OpOk X op x y z) : EJ X W (.BinOp a op b pos) ρ (.ok ρ2 z) := by
  obtain ⟨r, h1, h2⟩ := h
  exact ej_op h1 ha hb h2
theorem ej_add (ha : EJ X W a ρ (.ok ρ1 (.va x))) (hb : EJ X W b ρ1 (.ok ρ2 (.va y))) (h : OpOk X .Add x y z := by first | exact add_ii | exact add_tt (by simp only [List.length_cons, List.length_nil, List.length_append, List.length_map, sizeLine_eq]; omega)) : EJ X W (.BinOp a .Add b pos) ρ (.ok ρ2 z) := ej_bin ha hb h
theorem ej_sub (ha : EJ X W a ρ (.ok ρ1 (.va x))) (hb : EJ X W b ρ1 (.ok ρ2 (.va y))) (h : OpOk X .Sub x y z := by exact sub_ii) : EJ X W (.BinOp a .Sub b pos) ρ (.ok ρ2 z) := ej_bin ha hb h
theorem ej_mul (ha : EJ X W a ρ (.ok ρ1 (.va x))) (hb : EJ X W b ρ1 (.ok ρ2 (.va y))) (h : OpOk X .Mult x y z := by exact mul_ii (by unfold CMul; omega)) : EJ X W (.BinOp a .Mult b pos) ρ (.ok ρ2 z) := ej_bin ha hb h
theorem ej_fdiv (ha : EJ X W a ρ (.ok ρ1 (.va x))) (hb : EJ X W b ρ1 (.ok ρ2 (.va y))) (h : OpOk X .FloorDiv x y z := by exact fdiv_ii (by unfold CDiv; omega)) : EJ X W (.BinOp a .FloorDiv b pos) ρ (.ok ρ2 z) := ej_bin ha hb h
theorem ej_mod (ha : EJ X W a ρ (.ok ρ1 (.va x))) (hb : EJ X W b ρ1 (.ok ρ2 (.va y))) (h : OpOk X .Mod x y z := by exact mod_ii (by omega)) : EJ X W (.BinOp a .Mod b pos) ρ (.ok ρ2 z) := ej_bin ha hb h
theorem ej_pow (ha : EJ X W a ρ (.ok ρ1 (.va x))) (hb : EJ X W b ρ1 (.ok ρ2 (.va y))) (h : OpOk X .Pow x y z := by exact pow_ii (by unfold CPow; decide)) : EJ X W (.BinOp a .Pow b pos) ρ (.ok ρ2 z) := ej_bin ha hb h
theorem ej_neg (ha : EJ X W a ρ (.ok ρ1 (.va (.int i)))) : EJ X W (.UnaryOp .USub a pos) ρ (.ok ρ1 (.va (.int (-i)))) := ej_un un_neg ha p1_U
def itemsOf : PD → Option (List PD)
  | .list ds => some ds
  | .tuple ds => some ds
  | _ => none
theorem ej_at (ha : EJ X W a ρ (.ok ρ1 (.va x))) (hb : EJ X W b ρ1 (.ok ρ2 (.va (.int j)))) (hx : itemsOf x = some ds := by rfl) (hj : atI ds j = some d := by rfl) (hs : PlainIx b := by exact fun _ _ => rfl) : EJ X W (.Subscript a b pos) ρ (.ok ρ2 (.va d)) := by
  cases x with
  | list es => cases hx; exact ej_ix ix_list ha hb (p2_ixL hj) hs
  | tuple es => cases hx; exact ej_ix ix_tup ha hb (p2_ixT hj) hs
  | _ => cases hx
theorem it_seq {tg : Expr} (h : EJ X W e ρ (.ok ρ1 (.va x))) (hx : itemsOf x = some ds := by rfl) : ItJ X W tg e ρ ρ1 ds := by
  cases x with
  | list es => cases hx; exact it_list h
  | tuple es => cases hx; exact it_tup h
  | _ => cases hx
/-! ### comparisons of ints; None -/
theorem tj_lt (ha : EJ X W a ρ (.ok ρ1 (.va (.int i)))) (hb : EJ X W b ρ1 (.ok ρ2 (.va (.int j)))) : TJ X W (.Compare a [.Lt] [b] pos) ρ ρ2 (decide (i < j)) := tj_cmp op_lt ha hb (p2_B0 (g := fun i j => decide (i < j)))
theorem tj_le (ha : EJ X W a ρ (.ok ρ1 (.va (.int i)))) (hb : EJ X W b ρ1 (.ok ρ2 (.va (.int j)))) : TJ X W (.Compare a [.LtE] [b] pos) ρ ρ2 (decide (i ≤ j)) := tj_cmp op_le ha hb (p2_B0 (g := fun i j => decide (i ≤ j)))
theorem tj_gt (ha : EJ X W a ρ (.ok ρ1 (.va (.int i)))) (hb : EJ X W b ρ1 (.ok ρ2 (.va (.int j)))) : TJ X W (.Compare a [.Gt] [b] pos) ρ ρ2 (decide (j < i)) := tj_cmp op_gt ha hb (p2_B0 (g := fun i j => decide (j < i)))
theorem tj_ge (ha : EJ X W a ρ (.ok ρ1 (.va (.int i)))) (hb : EJ X W b ρ1 (.ok ρ2 (.va (.int j)))) : TJ X W (.Compare a [.GtE] [b] pos) ρ ρ2 (decide (j ≤ i)) := tj_cmp op_ge ha hb (p2_B0 (g := fun i j => decide (j ≤ i)))
theorem ej_lt (ha : EJ X W a ρ (.ok ρ1 (.va (.int i)))) (hb : EJ X W b ρ1 (.ok ρ2 (.va (.int j)))) : EJ X W (.Compare a [.Lt] [b] pos) ρ (.ok ρ2 (.va (.bool (decide (i < j))))) := ej_cmp op_lt ha hb (p2_B0 (g := fun i j => decide (i < j)))
theorem ej_le (ha : EJ X W a ρ (.ok ρ1 (.va (.int i)))) (hb : EJ X W b ρ1 (.ok ρ2 (.va (.int j)))) : EJ X W (.Compare a [.LtE] [b] pos) ρ (.ok ρ2 (.va (.bool (decide (i ≤ j))))) := ej_cmp op_le ha hb (p2_B0 (g := fun i j => decide (i ≤ j)))
theorem ej_gt (ha : EJ X W a ρ (.ok ρ1 (.va (.int i)))) (hb : EJ X W b ρ1 (.ok ρ2 (.va (.int j)))) : EJ X W (.Compare a [.Gt] [b] pos) ρ (.ok ρ2 (.va (.bool (decide (j < i))))) := ej_cmp op_gt ha hb (p2_B0 (g := fun i j => decide (j < i)))
theorem ej_ge (ha : EJ X W a ρ (.ok ρ1 (.va (.int i)))) (hb : EJ X W b ρ1 (.ok ρ2 (.va (.int j)))) : EJ X W (.Compare a [.GtE] [b] pos) ρ (.ok ρ2 (.va (.bool (decide (j ≤ i))))) := ej_cmp op_ge ha hb (p2_B0 (g := fun i j => decide (j ≤ i)))
theorem tj_isN {l : Nat} {p2 : Pos} (ha : EJ X W a ρ (.ok ρ1 (.va d))) : TJ X W (.Compare a [.Is] [.Constant .none l p2] pos) ρ ρ1 (isN d) := tj_cmp op_isN ha ej_non p2_isN
theorem tj_notN {l : Nat} {p2 : Pos} (ha : EJ X W a ρ (.ok ρ1 (.va d))) : TJ X W (.Compare a [.IsNot] [.Constant .none l p2] pos) ρ ρ1 (!isN d) := tj_cmp op_notN ha ej_non p2_notN
theorem ej_isN {l : Nat} {p2 : Pos} (ha : EJ X W a ρ (.ok ρ1 (.va d))) : EJ X W (.Compare a [.Is] [.Constant .none l p2] pos) ρ (.ok ρ1 (.va (.bool (isN d)))) := ej_cmp op_isN ha ej_non p2_isN
theorem ej_notN {l : Nat} {p2 : Pos} (ha : EJ X W a ρ (.ok ρ1 (.va d))) : EJ X W (.Compare a [.IsNot] [.Constant .none l p2] pos) ρ (.ok ρ1 (.va (.bool (!isN d)))) := ej_cmp op_notN ha ej_non p2_notN
/-- a <= b <= c of ints -/
theorem tj_lele {m : Int} (ha : EJ X W a ρ (.ok ρ (.va (.int i)))) (hb : EJ X W b ρ (.ok ρ (.va (.int j)))) (hc : i ≤ j → EJ X W c ρ (.ok ρ (.va (.int m)))) (hm : lastMarks [.LtE, .LtE] [b, c] = false := by with_unfolding_all rfl) : TJ X W (.Compare a [.LtE, .LtE] [b, c] pos) ρ ρ (decide (i ≤ j) && decide (j ≤ m)) :=
  tj_chain op_le op_le ha hb (p2_B0 (g := fun i j => decide (i ≤ j))) (fun h => hc (of_decide_eq_true h)) (fun _ => p2_B0 (g := fun i j => decide (i ≤ j))) hm
theorem ej_lele {m : Int} (ha : EJ X W a ρ (.ok ρ (.va (.int i)))) (hb : EJ X W b ρ (.ok ρ (.va (.int j)))) (hc : i ≤ j → EJ X W c ρ (.ok ρ (.va (.int m)))) (hm : lastMarks [.LtE, .LtE] [b, c] = false := by with_unfolding_all rfl) : EJ X W (.Compare a [.LtE, .LtE] [b, c] pos) ρ (.ok ρ (.va (.bool (decide (i ≤ j) && decide (j ≤ m))))) :=
  ej_chain op_le op_le ha hb (p2_B0 (g := fun i j => decide (i ≤ j))) (fun h => hc (of_decide_eq_true h)) (fun _ => p2_B0 (g := fun i j => decide (i ≤ j))) hm
end

/-! ### built-ins by what they are given -/
section
variable {X : Cx} {W : WX} {lv : Nat} {a b e : Expr} {ρ ρ1 ρ2 : En} {x y d : PD} {z : Rs} {i j : Int} {ds es : List PD} {pos p : Pos} {k : Bool}
theorem ej_len (hm : X.mg "len" = none) (ha : EJ X W a ρ (.ok ρ1 (.va x))) (hx : itemsOf x = some ds := by rfl) (hg : Gl X "len" := by rfl) (he : starEach [a] X.env = (false, eval a X.env) :: starEach [] X.env := by rfl) (hpl : (backTo pos (starEach [] X.env)).any (·.1) = false := by rfl) :
    EJ X W (.Call (.Name "len" p) [a] [] pos) ρ (.ok ρ1 (.va (.int ds.length))) :=
  ej_blt call_len_seq hm (aj_cons ha aj_nil he) (pc_len (by cases x <;> first | (cases hx; exact .inl rfl) | (cases hx; exact .inr rfl) | cases hx)) (by decide +kernel) hg (by decide) (by decide) he hpl
theorem ej_max2 (C : Ok X W lv) (hm : X.mg "max" = none) (ha : EJ X W a ρ (.ok ρ1 (.va (.int i)))) (hb : EJ X W b ρ1 (.ok ρ2 (.va (.int j)))) (hg : Gl X "max" := by rfl) (he : starEach [a, b] X.env = (false, eval a X.env) :: starEach [b] X.env := by rfl) (he2 : starEach [b] X.env = (false, eval b X.env) :: starEach [] X.env := by rfl) (hpl : (backTo pos (starEach [b] X.env)).any (·.1) = false := by rfl) :
    EJ X W (.Call (.Name "max" p) [a, b] [] pos) ρ (.ok ρ2 (.va (.int (max i j)))) := ej_blt (call_max2 C.calm) hm (aj_cons ha (aj_cons hb aj_nil he2) he) pc_max2 (by decide +kernel) hg (by decide) (by decide) he hpl
theorem ej_min2 (C : Ok X W lv) (hm : X.mg "min" = none) (ha : EJ X W a ρ (.ok ρ1 (.va (.int i)))) (hb : EJ X W b ρ1 (.ok ρ2 (.va (.int j)))) (hg : Gl X "min" := by rfl) (he : starEach [a, b] X.env = (false, eval a X.env) :: starEach [b] X.env := by rfl) (he2 : starEach [b] X.env = (false, eval b X.env) :: starEach [] X.env := by rfl) (hpl : (backTo pos (starEach [b] X.env)).any (·.1) = false := by rfl) :
    EJ X W (.Call (.Name "min" p) [a, b] [] pos) ρ (.ok ρ2 (.va (.int (min i j)))) := ej_blt (call_min2 C.calm) hm (aj_cons ha (aj_cons hb aj_nil he2) he) pc_min2 (by decide +kernel) hg (by decide) (by decide) he hpl
theorem ej_all {ns : List Bool} (C : Ok X W lv) (hm : X.mg "all" = none) (ha : EJ X W a ρ (.ok ρ1 (.va (.list (ns.map .bool))))) (hg : Gl X "all" := by rfl) (he : starEach [a] X.env = (false, eval a X.env) :: starEach [] X.env := by rfl) (hpl : (backTo pos (starEach [] X.env)).any (·.1) = false := by rfl) :
    EJ X W (.Call (.Name "all" p) [a] [] pos) ρ (.ok ρ1 (.va (.bool (ns.all id)))) := ej_blt (cr_all C.calm) hm (aj_cons ha aj_nil he) pc_all (by decide +kernel) hg (by decide) (by decide) he hpl
theorem ej_any {ns : List Bool} (C : Ok X W lv) (hm : X.mg "any" = none) (ha : EJ X W a ρ (.ok ρ1 (.va (.list (ns.map .bool))))) (hg : Gl X "any" := by rfl) (he : starEach [a] X.env = (false, eval a X.env) :: starEach [] X.env := by rfl) (hpl : (backTo pos (starEach [] X.env)).any (·.1) = false := by rfl) :
    EJ X W (.Call (.Name "any" p) [a] [] pos) ρ (.ok ρ1 (.va (.bool (ns.any id)))) := ej_blt (cr_any C.calm) hm (aj_cons ha aj_nil he) pc_any (by decide +kernel) hg (by decide) (by decide) he hpl
theorem ej_tupOf (hm : X.mg "tuple" = none) (ha : EJ X W a ρ (.ok ρ1 (.va x))) (hx : itemsOf x = some ds := by rfl) (hg : Gl X "tuple" := by rfl) (he : starEach [a] X.env = (false, eval a X.env) :: starEach [] X.env := by rfl) (hpl : (backTo pos (starEach [] X.env)).any (·.1) = false := by rfl) :
    EJ X W (.Call (.Name "tuple" p) [a] [] pos) ρ (.ok ρ1 (.va (.tuple ds))) := by
  cases x with
  | list es => cases hx; exact ej_bty call_tuple_of hm (aj_cons ha aj_nil he) pc_tupL (by decide +kernel) hg (by decide) (by decide) he hpl
  | tuple es => cases hx; exact ej_bty call_tuple_of hm (aj_cons ha aj_nil he) pc_tupT (by decide +kernel) hg (by decide) (by decide) he hpl
  | _ => cases hx
theorem ej_lstOf (hm : X.mg "list" = none) (ha : EJ X W a ρ (.ok ρ1 (.va x))) (hx : itemsOf x = some ds := by rfl) (hg : Gl X "list" := by rfl) (he : starEach [a] X.env = (false, eval a X.env) :: starEach [] X.env := by rfl) (hpl : (backTo pos (starEach [] X.env)).any (·.1) = false := by rfl) :
    EJ X W (.Call (.Name "list" p) [a] [] pos) ρ (.ok ρ1 (.ow (.lst ds))) :=
  ej_bty call_list_of hm (aj_cons ha aj_nil he) (pc_lstOf (by cases x <;> first | (cases hx; exact .inl rfl) | (cases hx; exact .inr rfl) | cases hx)) (by decide +kernel) hg (by decide) (by decide) he hpl
end
end Pj

set_option Elab.async false
set_option linter.all false
set_option maxRecDepth 100000
namespace Pj
open PySem PySem.Spec PyProof.Rows L2
section
variable {prog : Program} {w : World} {A : Around} {E : Value → Shared → Prop} {s : Shared} {l : Addr} {its : List Value} {ns : List Int} {Q : Value → Shared → Prop}
theorem iter_tupA {items : Array Value} {Q : Value → Shared → Prop} (hl : s.heap.IsTuple l items)
    (h : ∀ s₂ : Shared, s₂ = { s with heap := s.heap.push { cls := .type "tuple_iterator", data := .fields #[.ref l, .int 0 0] } } →
      (s₂.heap.IsTupleIter s.heap.objs.size l 0 ∧ s₂.heap.IsTuple l items) → (∀ b ∈ [s.heap.objs.size, l], b < s₂.heap.objs.size) → l ≠ s.heap.objs.size → Q (.ref s.heap.objs.size) s₂) :
    wpAny (model prog w) A (pyIter (.ref l)) Q E s := by
  have hlt : l < s.heap.objs.size := by obtain ⟨_, e, _⟩ := hl; exact Heap.lt_size e
  refine wpAny_pyIter_tuple hl (h _ rfl ⟨⟨_, Heap.get?_push_size _ rfl, rfl, rfl⟩, hl.push _⟩ (fun b hb => ?_) (Nat.ne_of_lt hlt))
  show b < (s.heap.push _).objs.size
  rw [Heap.size_push]
  rcases List.mem_cons.mp hb with rfl | hb
  · exact Nat.lt_succ_self _
  · rcases List.mem_cons.mp hb with rfl | hb
    · exact Nat.lt_succ_of_lt hlt
    · cases hb
theorem old_keptT {h' : Heap} (hk : ∀ b o, b ∉ [s.heap.objs.size] → (s.heap.push { cls := .type "tuple_iterator", data := .fields #[.ref l, .int 0 0] }).get? b = some o → h'.get? b = some o) :
    ∀ b o, s.heap.get? b = some o → h'.get? b = some o := fun b o e => by
  refine hk b o (fun hm => ?_) (Heap.get?_push_of_some _ e)
  rcases List.mem_cons.mp hm with e1 | hm
  · exact absurd (e1 ▸ Heap.lt_size e) (Nat.lt_irrefl _)
  · cases hm
theorem sumT_raw (hh : A.handled = none) (hl : s.heap.IsTuple l its.toArray) (hi : IntsAre its ns)
    (h : ∀ h' tk t', (∀ b o, s.heap.get? b = some o → h'.get? b = some o) → Q (.int ns.sum t') { s with heap := h', toks := tk }) : wpAny (model prog w) A (call (.builtin "sum") [.ref l]) Q E s := by
  obtain ⟨xs, e⟩ := hi.allInts.items
  have hn : numsOf (intItems xs).toList = ns := by rw [← e]; exact hi.numsOf
  rw [nums_intItems] at hn
  rw [e] at hl
  refine call_sum_walkG (iter_tupA hl fun s₂ e st hfp hlI => ?_)
  subst e
  refine ⟨_, _, _, _, _, _, numAt xs, rfl, Walks.tuple (A := A.in1) hh _ l hlI (intItems xs), st, hfp, (fun _ _ => intItems_at), fun h' tk t' hk => ?_⟩
  have := h h' tk t' (old_keptT hk)
  have e2 : preSum (numAt xs) xs.size = ns.sum := by
    rw [preSum_eq, List.take_of_length_le (by simp), hn]
  simpa [intItems, e2] using this
theorem maxT_raw (hh : A.handled = none) (hl : s.heap.IsTuple l its.toArray) (hi : IntsAre its ns) (hne : 0 < ns.length)
    (h : ∀ h' tk M t', (∀ b o, s.heap.get? b = some o → h'.get? b = some o) → M ∈ ns → (∀ a, a ∈ ns → a ≤ M) → Q (.int M t') { s with heap := h', toks := tk }) : wpAny (model prog w) A (call (.builtin "max") [.ref l]) Q E s := by
  obtain ⟨xs, e⟩ := hi.allInts.items
  have hn : numsOf (intItems xs).toList = ns := by rw [← e]; exact hi.numsOf
  rw [nums_intItems] at hn
  subst hn
  rw [e] at hl
  have hsz : 0 < xs.size := by simpa using hne
  refine call_max_walk (iter_tupA hl fun s₂ e st hfp hlI => ?_)
  subst e
  refine ⟨_, _, _, _, _, _, _, rfl, Walks.tuple (A := A.in1) hh _ l hlI (intItems xs), st, hfp, by simpa [intItems] using hsz, CmpOf.ints_gt (numAt xs) (fun _ _ => intItems_at), fun v h' tk hP hk => ?_⟩
  have hv : (intItems xs)[argBest (fun i j => decide (numAt xs i > numAt xs j)) (xs.size - 1)]? = some v := by simpa [intItems] using hP
  obtain ⟨t, rfl⟩ := intItems_at hv
  obtain ⟨h1, h2⟩ := argBest_gt (numAt xs) (xs.size - 1)
  refine h h' tk _ t (old_keptT hk) ?_ fun a ha => ?_
  · rw [numAt_eq]; exact PySem.getD_mem (by rw [List.length_map, Array.length_toList]; omega)
  · obtain ⟨j, hj, rfl⟩ := mem_getD ha
    rw [List.length_map, Array.length_toList] at hj
    rw [← numAt_eq]; exact h2 j (by omega)
theorem minT_raw (hh : A.handled = none) (hl : s.heap.IsTuple l its.toArray) (hi : IntsAre its ns) (hne : 0 < ns.length)
    (h : ∀ h' tk M t', (∀ b o, s.heap.get? b = some o → h'.get? b = some o) → M ∈ ns → (∀ a, a ∈ ns → M ≤ a) → Q (.int M t') { s with heap := h', toks := tk }) : wpAny (model prog w) A (call (.builtin "min") [.ref l]) Q E s := by
  obtain ⟨xs, e⟩ := hi.allInts.items
  have hn : numsOf (intItems xs).toList = ns := by rw [← e]; exact hi.numsOf
  rw [nums_intItems] at hn
  subst hn
  rw [e] at hl
  have hsz : 0 < xs.size := by simpa using hne
  refine call_min_walk (iter_tupA hl fun s₂ e st hfp hlI => ?_)
  subst e
  refine ⟨_, _, _, _, _, _, _, rfl, Walks.tuple (A := A.in1) hh _ l hlI (intItems xs), st, hfp, by simpa [intItems] using hsz, CmpOf.ints_lt (numAt xs) (fun _ _ => intItems_at), fun v h' tk hP hk => ?_⟩
  have hv : (intItems xs)[argBest (fun i j => decide (numAt xs i < numAt xs j)) (xs.size - 1)]? = some v := by simpa [intItems] using hP
  obtain ⟨t, rfl⟩ := intItems_at hv
  obtain ⟨h1, h2⟩ := argBest_lt (numAt xs) (xs.size - 1)
  refine h h' tk _ t (old_keptT hk) ?_ fun a ha => ?_
  · rw [numAt_eq]; exact PySem.getD_mem (by rw [List.length_map, Array.length_toList]; omega)
  · obtain ⟨j, hj, rfl⟩ := mem_getD ha
    rw [List.length_map, Array.length_toList] at hj
    rw [← numAt_eq]; exact h2 j (by omega)
end
section
variable {X : Cx} {W : WX} {lv : Nat} {a b e : Expr} {ρ ρ1 ρ2 : En} {x y d : PD} {z : Rs} {i j : Int} {ds es : List PD} {pos p : Pos} {k : Bool} {ns : List Int}
def rSumT (K : PySem.W.Frag) : List V → Hp → VK → Prop := fun vs H Q => ∃ (a : Addr) (ns : List Int), vs = [V.ref a] ∧ SqT K H a (ns.map V.int) ∧ Q (.int ns.sum) H
def rMaxT (K : PySem.W.Frag) : List V → Hp → VK → Prop := fun vs H Q => ∃ (a : Addr) (ns : List Int), vs = [V.ref a] ∧ SqT K H a (ns.map V.int) ∧ 0 < ns.length ∧ ∀ m, m ∈ ns → (∀ y, y ∈ ns → y ≤ m) → Q (.int m) H
def rMinT (K : PySem.W.Frag) : List V → Hp → VK → Prop := fun vs H Q => ∃ (a : Addr) (ns : List Int), vs = [V.ref a] ∧ SqT K H a (ns.map V.int) ∧ 0 < ns.length ∧ ∀ m, m ∈ ns → (∀ y, y ∈ ns → m ≤ y) → Q (.int m) H
theorem cr_sumT (hc : X.calm = true) : CallR X (.builtin "sum") (rSumT X.K) := by
  intro pins s σ H vs us Q I r h
  obtain ⟨a, ns, rfl, hs, q⟩ := h
  obtain ⟨its, rv, hl, _⟩ := I.tuple hs
  rw [Vals.ref1 r]
  exact sumT_raw (I.ok.hd hc) hl rv.ints fun h' tk t' hk => ⟨.int _, H, I.kept hk, ⟨_, rfl⟩, q⟩
theorem cr_maxT (hc : X.calm = true) : CallR X (.builtin "max") (rMaxT X.K) := by
  intro pins s σ H vs us Q I r h
  obtain ⟨a, ns, rfl, hs, hne, q⟩ := h
  obtain ⟨its, rv, hl, _⟩ := I.tuple hs
  rw [Vals.ref1 r]
  exact maxT_raw (I.ok.hd hc) hl rv.ints hne fun h' tk m t' hk h1 h2 => ⟨.int _, H, I.kept hk, ⟨_, rfl⟩, q m h1 h2⟩
theorem cr_minT (hc : X.calm = true) : CallR X (.builtin "min") (rMinT X.K) := by
  intro pins s σ H vs us Q I r h
  obtain ⟨a, ns, rfl, hs, hne, q⟩ := h
  obtain ⟨its, rv, hl, _⟩ := I.tuple hs
  rw [Vals.ref1 r]
  exact minT_raw (I.ok.hd hc) hl rv.ints hne fun h' tk m t' hk h1 h2 => ⟨.int _, H, I.kept hk, ⟨_, rfl⟩, q m h1 h2⟩
theorem pc_sumT {K : PySem.W.Frag} : PC K (rSumT K) [.tuple (ns.map .int)] (.va (.int ns.sum)) := fun F H vs Q e hx q => by
  cases hx with
  | cons r hx =>
    cases hx
    cases r with
    | tup h1 h2 =>
      rw [DpAll.ints h2] at h1
      exact ⟨_, ns, rfl, Same.seqT e h1, q F H _ (Xt.refl e) (.int _)⟩
theorem ej_sum (C : Ok X W lv) (hm : X.mg "sum" = none) (ha : EJ X W a ρ (.ok ρ1 (.va x))) (hx : itemsOf x = some (ns.map .int) := by rfl) (hg : Gl X "sum" := by rfl) (he : starEach [a] X.env = (false, eval a X.env) :: starEach [] X.env := by rfl) (hpl : (backTo pos (starEach [] X.env)).any (·.1) = false := by rfl) :
    EJ X W (.Call (.Name "sum" p) [a] [] pos) ρ (.ok ρ1 (.va (.int ns.sum))) := by
  cases x with
  | list es => cases hx; exact ej_blt (cr_sum C.calm) hm (aj_cons ha aj_nil he) pc_sumL (by decide +kernel) hg (by decide) (by decide) he hpl
  | tuple es => cases hx; exact ej_blt (cr_sumT C.calm) hm (aj_cons ha aj_nil he) pc_sumT (by decide +kernel) hg (by decide) (by decide) he hpl
  | _ => cases hx
/-- the greatest, the least of two or more -/
def maxL : List Int → Int
  | [] => 0
  | x :: xs => xs.foldl max x
def minL : List Int → Int
  | [] => 0
  | x :: xs => xs.foldl min x
theorem foldl_max : ∀ (xs : List Int) (x : Int), (xs.foldl max x ∈ x :: xs) ∧ ∀ y, y ∈ x :: xs → y ≤ xs.foldl max x
  | [], x => by simp
  | y :: xs, x => by
    obtain ⟨h1, h2⟩ := foldl_max xs (max x y)
    rw [List.foldl_cons]
    refine ⟨?_, fun z hz => ?_⟩
    · rcases List.mem_cons.mp h1 with e | e
      · rw [e]
        by_cases h : x ≤ y
        · rw [Int.max_eq_right h]; simp
        · rw [Int.max_eq_left (by omega)]; simp
      · simp [e]
    · have h3 := h2 (max x y) List.mem_cons_self
      rcases List.mem_cons.mp hz with e | e
      · subst e; omega
      · rcases List.mem_cons.mp e with e | e
        · subst e; omega
        · exact h2 z (List.mem_cons_of_mem _ e)
theorem foldl_min : ∀ (xs : List Int) (x : Int), (xs.foldl min x ∈ x :: xs) ∧ ∀ y, y ∈ x :: xs → xs.foldl min x ≤ y
  | [], x => by simp
  | y :: xs, x => by
    obtain ⟨h1, h2⟩ := foldl_min xs (min x y)
    rw [List.foldl_cons]
    refine ⟨?_, fun z hz => ?_⟩
    · rcases List.mem_cons.mp h1 with e | e
      · rw [e]
        by_cases h : x ≤ y
        · rw [Int.min_eq_left h]; simp
        · rw [Int.min_eq_right (by omega)]; simp
      · simp [e]
    · have h3 := h2 (min x y) List.mem_cons_self
      rcases List.mem_cons.mp hz with e | e
      · subst e; omega
      · rcases List.mem_cons.mp e with e | e
        · subst e; omega
        · exact h2 z (List.mem_cons_of_mem _ e)
theorem maxL_eq {m : Int} {xs : List Int} (h1 : m ∈ xs) (h2 : ∀ y, y ∈ xs → y ≤ m) : m = maxL xs := by
  cases xs with
  | nil => cases h1
  | cons x xs =>
    obtain ⟨a, b⟩ := foldl_max xs x
    have := h2 _ a
    have := b _ h1
    show m = xs.foldl max x
    omega
theorem minL_eq {m : Int} {xs : List Int} (h1 : m ∈ xs) (h2 : ∀ y, y ∈ xs → m ≤ y) : m = minL xs := by
  cases xs with
  | nil => cases h1
  | cons x xs =>
    obtain ⟨a, b⟩ := foldl_min xs x
    have := h2 _ a
    have := b _ h1
    show m = xs.foldl min x
    omega
theorem pc_maxT {K : PySem.W.Frag} (h : 0 < ns.length) : PC K (rMaxT K) [.tuple (ns.map .int)] (.va (.int (maxL ns))) := fun F H vs Q e hx q => by
  cases hx with
  | cons r hx =>
    cases hx
    cases r with
    | tup h1 h2 =>
      rw [DpAll.ints h2] at h1
      exact ⟨_, ns, rfl, Same.seqT e h1, h, fun m a b => by rw [maxL_eq a b]; exact q F H _ (Xt.refl e) (.int _)⟩
theorem pc_maxL {K : PySem.W.Frag} (h : 0 < ns.length) : PC K (rMax K) [.list (ns.map .int)] (.va (.int (maxL ns))) := fun F H vs Q e hx q => by
  cases hx with
  | cons r hx =>
    cases hx
    cases r with
    | lst h1 h2 =>
      rw [DpAll.ints h2] at h1
      exact ⟨_, ns, rfl, Same.seq e h1, h, fun m a b => by rw [maxL_eq a b]; exact q F H _ (Xt.refl e) (.int _)⟩
theorem pc_minT {K : PySem.W.Frag} (h : 0 < ns.length) : PC K (rMinT K) [.tuple (ns.map .int)] (.va (.int (minL ns))) := fun F H vs Q e hx q => by
  cases hx with
  | cons r hx =>
    cases hx
    cases r with
    | tup h1 h2 =>
      rw [DpAll.ints h2] at h1
      exact ⟨_, ns, rfl, Same.seqT e h1, h, fun m a b => by rw [minL_eq a b]; exact q F H _ (Xt.refl e) (.int _)⟩
theorem pc_minL {K : PySem.W.Frag} (h : 0 < ns.length) : PC K (rMin K) [.list (ns.map .int)] (.va (.int (minL ns))) := fun F H vs Q e hx q => by
  cases hx with
  | cons r hx =>
    cases hx
    cases r with
    | lst h1 h2 =>
      rw [DpAll.ints h2] at h1
      exact ⟨_, ns, rfl, Same.seq e h1, h, fun m a b => by rw [minL_eq a b]; exact q F H _ (Xt.refl e) (.int _)⟩
theorem ej_max1 (C : Ok X W lv) (hm : X.mg "max" = none) (ha : EJ X W a ρ (.ok ρ1 (.va x))) (h : 0 < ns.length) (hx : itemsOf x = some (ns.map .int) := by rfl) (hg : Gl X "max" := by rfl) (he : starEach [a] X.env = (false, eval a X.env) :: starEach [] X.env := by rfl) (hpl : (backTo pos (starEach [] X.env)).any (·.1) = false := by rfl) :
    EJ X W (.Call (.Name "max" p) [a] [] pos) ρ (.ok ρ1 (.va (.int (maxL ns)))) := by
  cases x with
  | list es => cases hx; exact ej_blt (cr_max C.calm) hm (aj_cons ha aj_nil he) (pc_maxL h) (by decide +kernel) hg (by decide) (by decide) he hpl
  | tuple es => cases hx; exact ej_blt (cr_maxT C.calm) hm (aj_cons ha aj_nil he) (pc_maxT h) (by decide +kernel) hg (by decide) (by decide) he hpl
  | _ => cases hx
theorem ej_min1 (C : Ok X W lv) (hm : X.mg "min" = none) (ha : EJ X W a ρ (.ok ρ1 (.va x))) (h : 0 < ns.length) (hx : itemsOf x = some (ns.map .int) := by rfl) (hg : Gl X "min" := by rfl) (he : starEach [a] X.env = (false, eval a X.env) :: starEach [] X.env := by rfl) (hpl : (backTo pos (starEach [] X.env)).any (·.1) = false := by rfl) :
    EJ X W (.Call (.Name "min" p) [a] [] pos) ρ (.ok ρ1 (.va (.int (minL ns)))) := by
  cases x with
  | list es => cases hx; exact ej_blt (cr_min C.calm) hm (aj_cons ha aj_nil he) (pc_minL h) (by decide +kernel) hg (by decide) (by decide) he hpl
  | tuple es => cases hx; exact ej_blt (cr_minT C.calm) hm (aj_cons ha aj_nil he) (pc_minT h) (by decide +kernel) hg (by decide) (by decide) he hpl
  | _ => cases hx
/-! ### x in xs -/
theorem flatD_V {K : PySem.W.Frag} {F : Hp} {v : V} (h : Dp K F v d) (f : flatD d = true) : flatV v = true := by
  cases h <;> first | rfl | cases f
theorem eqV_D {K : PySem.W.Frag} {F : Hp} {u v : V} {y : PD} (h : Dp K F u d) (g : Dp K F v y) (f : flatD d = true) (f' : flatD y = true) : eqV u v = PyData.eqv d y := by
  cases h with
  | lst _ _ => cases f
  | tup _ _ => cases f
  | non => cases g <;> first | (cases f'; done) | simp [eqV, PyData.eqv]
  | bl b => cases g <;> first | (cases f'; done) | simp [eqV, PyData.eqv]
  | int b => cases g <;> first | (cases f'; done) | simp [eqV, PyData.eqv]
  | str b => cases g <;> first | (cases f'; done) | simp [eqV, PyData.eqv]
theorem flatD_all {K : PySem.W.Frag} {F : Hp} : ∀ {vs : List V} {ds : List PD}, DpAll K F vs ds → ds.all flatD = true → vs.all flatV = true
  | _, _, .nil, _ => rfl
  | _, _, .cons h t, f => by
    rw [List.all_cons, Bool.and_eq_true] at f ⊢
    exact ⟨flatD_V h f.1, flatD_all t f.2⟩
theorem inV_D {K : PySem.W.Frag} {F : Hp} {u : V} (h : Dp K F u d) (f : flatD d = true) : ∀ {vs : List V} {ds : List PD}, DpAll K F vs ds → ds.all flatD = true → inV u vs = ds.any fun y => PyData.eqv y d
  | _, _, .nil, _ => rfl
  | _, _, .cons g t, f' => by
    rw [List.all_cons, Bool.and_eq_true] at f'
    have ih := inV_D h f t f'.2
    unfold inV at ih ⊢
    rw [List.any_cons, List.any_cons, ih, eqV_D g h f'.1 f]
theorem p2_in {neg : Bool} (hx : itemsOf y = some ds) (f : flatD d = true) (f' : ds.all flatD = true) : P2 X.K (rIn X.K neg) d y (.va (.bool (if neg then !(ds.any fun y => PyData.eqv y d) else ds.any fun y => PyData.eqv y d))) := fun F H vx vy Q e hd hy q => by
  cases hy with
  | lst h1 h2 =>
    cases hx
    refine ⟨_, _, rfl, .inl (Same.seq e h1), flatD_V hd f, flatD_all h2 f', ?_⟩
    rw [inV_D hd f h2 f']
    exact q F H _ (Xt.refl e) (.bl _)
  | tup h1 h2 =>
    cases hx
    refine ⟨_, _, rfl, .inr (Same.seqT e h1), flatD_V hd f, flatD_all h2 f', ?_⟩
    rw [inV_D hd f h2 f']
    exact q F H _ (Xt.refl e) (.bl _)
  | _ => cases hx
theorem tj_in (ha : EJ X W a ρ (.ok ρ1 (.va d))) (hb : EJ X W b ρ1 (.ok ρ2 (.va y))) (hx : itemsOf y = some ds := by rfl) (hk : (ds.any fun y => PyData.eqv y d) = k := by rfl) (f : flatD d = true := by rfl) (f' : ds.all flatD = true := by rfl) (hm : behindInMarks .In b = false := by rfl) : TJ X W (.Compare a [.In] [b] pos) ρ ρ2 k :=
  hk ▸ tj_cmp op_in_seq ha hb (p2_in (neg := false) hx f f') hm
theorem ej_in (ha : EJ X W a ρ (.ok ρ1 (.va d))) (hb : EJ X W b ρ1 (.ok ρ2 (.va y))) (hx : itemsOf y = some ds := by rfl) (hk : (ds.any fun y => PyData.eqv y d) = k := by rfl) (f : flatD d = true := by rfl) (f' : ds.all flatD = true := by rfl) (hm : behindInMarks .In b = false := by rfl) : EJ X W (.Compare a [.In] [b] pos) ρ (.ok ρ2 (.va (.bool k))) :=
  hk ▸ ej_cmp op_in_seq ha hb (p2_in (neg := false) hx f f') hm
theorem tj_nin (ha : EJ X W a ρ (.ok ρ1 (.va d))) (hb : EJ X W b ρ1 (.ok ρ2 (.va y))) (hx : itemsOf y = some ds := by rfl) (hk : (ds.any fun y => PyData.eqv y d) = k := by rfl) (f : flatD d = true := by rfl) (f' : ds.all flatD = true := by rfl) (hm : behindInMarks .NotIn b = false := by rfl) : TJ X W (.Compare a [.NotIn] [b] pos) ρ ρ2 (!k) :=
  hk ▸ tj_cmp op_notIn_seq ha hb (p2_in (neg := true) hx f f') hm
end
end Pj
namespace Pj
open PySem PySem.Spec PyProof.Rows L2
section
variable {X : Cx} {W : WX} {lv : Nat} {scope : Scope} {own : List (Str × Nat)} {sh : TgS} {elt tg iter e a c : Expr} {items ds : List PD} {ρ ρ1 ρ2 : En} {pos p : Pos} {d x y : PD} {α : Type}
/-- [elt for tg in iter], nothing changes -/
theorem ej_lcM (l : List α) (en f : α → PD) (C : Ok X W lv) (hi : ItJ X W tg iter ρ ρ1 items) (he : items = l.map en) (ok : BlkOk X.N X.env.scope scope own) (hg : ∀ (s : Shared) (H : Hp) (A : Addr) (cl : List (Str × Addr)) (fp : List Addr), PG (X.blk s H scope (compEnvC scope cl A X.env) fp) tg (gOf X.K sh))
    (hz : l.length < sizeLine) (hb : ∀ b, b ∈ l → ∃ ρt, tgSet sh (en b) (wipeE ρ1 (own.map (·.2))) = some ρt ∧ ∀ Y, BlkX X scope Y → EJ Y W0 elt ρt (.ok ρt (.va (f b))))
    (hs : subB (tgVars sh) (own.map (·.2)) = true := by rfl) (hv : noCt ρ1 (own.map (·.2)) = true := by rfl)
    (hf : ∀ x, foldedSetIterable iter X.env x = pure x := by intro _; rfl) : EJ X W (.ListComp elt [⟨tg, iter, [], 0⟩] scope pos) ρ (.ok ρ1 (.ow (.lst (l.map f)))) := by
  subst he
  exact ej_lc C hi ok hg (lcJ_map en f hs l hb) (by rw [List.length_map]; exact hz) hs hv hf
theorem ej_lcF (l : List α) (en f : α → PD) (pr : α → Bool) (C : Ok X W lv) (hi : ItJ X W tg iter ρ ρ1 items) (he : items = l.map en) (ok : BlkOk X.N X.env.scope scope own) (hg : ∀ (s : Shared) (H : Hp) (A : Addr) (cl : List (Str × Addr)) (fp : List Addr), PG (X.blk s H scope (compEnvC scope cl A X.env) fp) tg (gOf X.K sh))
    (hz : l.length < sizeLine) (hb : ∀ b, b ∈ l → ∃ ρt, tgSet sh (en b) (wipeE ρ1 (own.map (·.2))) = some ρt ∧ (∀ Y, BlkX X scope Y → TJ Y W0 c ρt ρt (pr b)) ∧ (pr b = true → ∀ Y, BlkX X scope Y → EJ Y W0 elt ρt (.ok ρt (.va (f b)))))
    (hs : subB (tgVars sh) (own.map (·.2)) = true := by rfl) (hv : noCt ρ1 (own.map (·.2)) = true := by rfl)
    (hf : ∀ x, foldedSetIterable iter X.env x = pure x := by intro _; rfl) : EJ X W (.ListComp elt [⟨tg, iter, [c], 0⟩] scope pos) ρ (.ok ρ1 (.ow (.lst ((l.filter pr).map f)))) := by
  subst he
  refine ej_lc C hi ok hg (lcJ_filter en f pr hs l hb) ?_ hs hv hf
  rw [List.length_map]
  exact Nat.lt_of_le_of_lt (List.length_filter_le _ _) hz
theorem sj_lcM (i : Nat) {py : Pos} {n : Str} (l : List α) (en f : α → PD) (C : Ok X W lv) (hi : ItJ X W tg iter ρ ρ1 items) (he : items = l.map en) (ok : BlkOk X.N X.env.scope scope own) (hg : ∀ (s : Shared) (H : Hp) (A : Addr) (cl : List (Str × Addr)) (fp : List Addr), PG (X.blk s H scope (compEnvC scope cl A X.env) fp) tg (gOf X.K sh))
    (hz : l.length < sizeLine) (hb : ∀ b, b ∈ l → ∃ ρt, tgSet sh (en b) (wipeE ρ1 (own.map (·.2))) = some ρt ∧ ∀ Y, BlkX X scope Y → EJ Y W0 elt ρt (.ok ρt (.va (f b))))
    (hsw : swapsWith (.ListComp elt [⟨tg, iter, [], 0⟩] scope pos) (some (.Name n py)) p.line X.env = pure true) (hs : subB (tgVars sh) (own.map (·.2)) = true := by rfl) (hv : noCt ρ1 (own.map (·.2)) = true := by rfl)
    (hf : ∀ x, foldedSetIterable iter X.env x = pure x := by intro _; rfl) (hy : X.N[i]? = some n := by rfl) (hyl : X.env.scope.names.lookup n = some .local := by rfl) (hlt : i < ρ1.length := by exact Nat.le_of_ble_eq_true rfl) : SJ X W (.Assign [.Name n py] (.ListComp elt [⟨tg, iter, [], 0⟩] scope pos) p) ρ (.nx (ρ1.set i (.ow (.lst (l.map f))))) := by
  subst he
  exact sj_setC i C hi ok hg (lcJ_map en f hs l hb) (by rw [List.length_map]; exact hz) hsw hs hv hf hy hyl hlt
theorem ej_allF (l : List α) (f : α → Bool) (C : Ok X W lv) (hm : X.mg "all" = none) (ha : EJ X W a ρ (.ok ρ1 (.va (.list (l.map fun b => .bool (f b)))))) (hg : Gl X "all" := by rfl) (he : starEach [a] X.env = (false, eval a X.env) :: starEach [] X.env := by rfl) (hpl : (backTo pos (starEach [] X.env)).any (·.1) = false := by rfl) :
    EJ X W (.Call (.Name "all" p) [a] [] pos) ρ (.ok ρ1 (.va (.bool (l.all f)))) := by
  have e : (l.map fun b => PyData.bool (f b)) = (l.map f).map .bool := by rw [List.map_map]; rfl
  rw [e] at ha
  have := ej_all (p := p) C hm ha hg he hpl
  rwa [List.all_map] at this
theorem ej_anyF (l : List α) (f : α → Bool) (C : Ok X W lv) (hm : X.mg "any" = none) (ha : EJ X W a ρ (.ok ρ1 (.va (.list (l.map fun b => .bool (f b)))))) (hg : Gl X "any" := by rfl) (he : starEach [a] X.env = (false, eval a X.env) :: starEach [] X.env := by rfl) (hpl : (backTo pos (starEach [] X.env)).any (·.1) = false := by rfl) :
    EJ X W (.Call (.Name "any" p) [a] [] pos) ρ (.ok ρ1 (.va (.bool (l.any f)))) := by
  have e : (l.map fun b => PyData.bool (f b)) = (l.map f).map .bool := by rw [List.map_map]; rfl
  rw [e] at ha
  have := ej_any (p := p) C hm ha hg he hpl
  rwa [List.any_map] at this
theorem ej_sumF (l : List α) (f : α → Int) (C : Ok X W lv) (hm : X.mg "sum" = none) (ha : EJ X W a ρ (.ok ρ1 (.va x))) (hx : itemsOf x = some (l.map fun b => .int (f b)) := by rfl) (hg : Gl X "sum" := by rfl) (he : starEach [a] X.env = (false, eval a X.env) :: starEach [] X.env := by rfl) (hpl : (backTo pos (starEach [] X.env)).any (·.1) = false := by rfl) :
    EJ X W (.Call (.Name "sum" p) [a] [] pos) ρ (.ok ρ1 (.va (.int ((l.map f).sum)))) := ej_sum C hm ha (by rw [hx, List.map_map]; rfl) hg he hpl
end
end Pj

set_option Elab.async false
set_option linter.all false
set_option maxRecDepth 100000
namespace Pj
open PySem PySem.Spec PyProof.Rows L2
theorem le_nil : Le [] [] := ⟨rfl, fun i s h => by simp at h⟩
theorem le_un {ρ' ρ : En} {s : Sl} (h : Le ρ' ρ) : Le (.un :: ρ') (s :: ρ) := by
  refine ⟨by rw [List.length_cons, List.length_cons, h.1], fun i t e => ?_⟩
  cases i with
  | zero => cases e; exact .inl rfl
  | succ i => exact h.2 i t e
theorem le_eq {ρ' ρ : En} {s : Sl} (h : Le ρ' ρ) : Le (s :: ρ') (s :: ρ) := by
  refine ⟨by rw [List.length_cons, List.length_cons, h.1], fun i t e => ?_⟩
  cases i with
  | zero => cases e; exact .inr rfl
  | succ i => exact h.2 i t e
section
variable {X : Cx} {W : WX} {lv : Nat} {body ta tb rest : List Stmt} {st : Stmt} {ρ ρ1 ρ2 : En} {r : Rs} {n : Str} {p : Option (Str × PD)} {o : SO} {po : PO} {k : Bool} {c e tg iter : Expr} {pos : Pos} {sh : TgS} {items : List PD} {α S : Type}
theorem bj_done (h : Le ρ2 ρ := by repeat (first | exact le_nil | apply le_eq | apply le_un)) : BJ X W [] ρ (.nx ρ2) := bj_nil.le h
theorem SJ.to (h : SJ X W st ρ (.nx ρ1)) (l : Le ρ2 ρ1 := by repeat (first | exact le_nil | apply le_eq | apply le_un)) : SJ X W st ρ (.nx ρ2) := h.le l
theorem bj_ret {r0 : Rs} (he : EJ X W e ρ (.ok ρ1 r)) (e0 : r = r0 := by rfl) : BJ X W (.Return (some e) pos :: rest) ρ (.rt ρ1 r0) := e0 ▸ bj_out (sj_ret he)
theorem bj_ifF (hc : TJ X W c ρ ρ1 k) (hk : k = false) (h2 : BJ X W rest ρ1 o) : BJ X W (.If c ta [] pos :: rest) ρ o := by
  subst hk
  exact bj_cons (sj_if hc (fun z => nomatch z) fun _ => bj_nil) h2
theorem bj_ifT (hc : TJ X W c ρ ρ1 k) (hk : k = true) (h1 : BJ X W ta ρ1 o) (ho : o.out := by trivial) : BJ X W (.If c ta tb pos :: rest) ρ o := by
  subst hk
  exact bj_out (sj_if hc (fun _ => h1) fun z => nomatch z) ho
/-- a for that searches and changes nothing -/
theorem forJ_find (l : List α) (en : α → PD) (g : α → Option Rs) (turn : ∀ a, a ∈ l → ∃ ρt, tgSet sh (en a) ρ = some ρt ∧ (g a = none → BJ X W body ρt (.nx ρ)) ∧ ∀ r, g a = some r → ∃ ρ', BJ X W body ρt (.rt ρ' r)) :
    (l.findSome? g = none → ForJ X W sh body (l.map en) ρ (.nx ρ)) ∧ ∀ r, l.findSome? g = some r → ∃ ρ', ForJ X W sh body (l.map en) ρ (.rt ρ' r) := by
  induction l with
  | nil => exact ⟨fun _ => .nil, fun r h => by cases h⟩
  | cons a l ih =>
    obtain ⟨ρt, h1, h2, h3⟩ := turn a List.mem_cons_self
    obtain ⟨i1, i2⟩ := ih fun b hb => turn b (List.mem_cons_of_mem _ hb)
    cases e : g a with
    | none =>
      rw [List.findSome?_cons, e]
      exact ⟨fun h => .nx h1 (h2 e) (i1 h), fun r h => by
        obtain ⟨ρ', q⟩ := i2 r h
        exact ⟨ρ', .nx h1 (h2 e) q⟩⟩
    | some r =>
      rw [List.findSome?_cons, e]
      refine ⟨fun h => (by cases h), fun r' h => ?_⟩
      cases h
      obtain ⟨ρ', q⟩ := h3 r e
      exact ⟨ρ', .rt h1 q⟩
theorem fj_find (l : List α) (en : α → PD) (g : α → Option Rs) (C : Ok X W lv) (hi : ItJ X W tg iter ρ ρ1 items) (he : items = l.map en) (hg : PG X tg (gOf X.K sh))
    (turn : ∀ a, a ∈ l → ∃ ρt, tgSet sh (en a) ρ1 = some ρt ∧ (g a = none → BJ X W body ρt (.nx ρ1)) ∧ ∀ r, g a = some r → ∃ ρ', BJ X W body ρt (.rt ρ' r))
    (h1 : l.findSome? g = none → FJ X W rest ρ1 po) (h2 : ∀ r, l.findSome? g = some r → po = .ok r) (hs : ∀ x, foldedSetIterable iter X.env x = pure x := by intro _; rfl) : FJ X W (.For tg iter body [] pos :: rest) ρ po := by
  subst he
  obtain ⟨a, b⟩ := forJ_find l en g turn
  cases e : l.findSome? g with
  | none => exact fj_cons (sj_for C hi hg (a e) hs) (h1 e)
  | some r =>
    obtain ⟨ρ', q⟩ := b r e
    exact fj_st (sj_for C hi hg q hs) (h2 r e)
/-- a for that carries a state -/
theorem forJ_fold (E : S → En) (step : S → α → S) (en : α → PD) (Inv : Nat → S → Prop) : ∀ (l : List α) (j : Nat) (s0 : S), (∀ i a s, l[i]? = some a → Inv (j + i) s → ∃ ρt, tgSet sh (en a) (E s) = some ρt ∧ BJ X W body ρt (.nx (E (step s a))) ∧ Inv (j + i + 1) (step s a)) → Inv j s0 →
    ForJ X W sh body (l.map en) (E s0) (.nx (E (l.foldl step s0))) ∧ Inv (j + l.length) (l.foldl step s0)
  | [], j, s0, _, h0 => ⟨.nil, h0⟩
  | a :: l, j, s0, turn, h0 => by
    obtain ⟨ρt, h1, h2, h3⟩ := turn 0 a s0 rfl h0
    obtain ⟨i1, i2⟩ := forJ_fold E step en Inv l (j + 1) (step s0 a) (fun i b s hb hs => by
      have e : j + 1 + i = j + (i + 1) := by omega
      rw [e] at hs ⊢
      exact turn (i + 1) b s (by simpa using hb) hs) h3
    exact ⟨.nx h1 h2 i1, by rw [List.length_cons, show j + (l.length + 1) = j + 1 + l.length by omega]; exact i2⟩
theorem sj_fold (E : S → En) (step : S → α → S) (l : List α) (en : α → PD) (Inv : Nat → S → Prop) (s0 : S) (C : Ok X W lv) (hi : ItJ X W tg iter ρ (E s0) items) (he : items = l.map en) (hg : PG X tg (gOf X.K sh)) (h0 : Inv 0 s0)
    (turn : ∀ i a s, l[i]? = some a → Inv i s → ∃ ρt, tgSet sh (en a) (E s) = some ρt ∧ BJ X W body ρt (.nx (E (step s a))) ∧ Inv (i + 1) (step s a)) (hs : ∀ x, foldedSetIterable iter X.env x = pure x := by intro _; rfl) : SJ X W (.For tg iter body [] pos) ρ (.nx (E (l.foldl step s0))) := by
  subst he
  refine sj_for C hi hg (forJ_fold E step en Inv l 0 s0 (fun i a s ha h => ?_) h0).1 hs
  rw [Nat.zero_add] at h ⊢
  exact turn i a s ha h
end
end Pj
namespace Pj
open PySem PySem.Spec PyProof.Rows L2
section
variable {X : Cx} {W : WX} {lv : Nat} {body ta tb rest : List Stmt} {st : Stmt} {ρ ρ1 ρ2 : En} {r : Rs} {n : Str} {p : Option (Str × PD)} {o : SO} {po : PO} {k : Bool} {c e tg iter : Expr} {pos : Pos} {sh : TgS} {items : List PD} {α S : Type}
/-- a for whose turns change nothing and go on -/
theorem sj_each (l : List α) (en : α → PD) (C : Ok X W lv) (hi : ItJ X W tg iter ρ ρ1 items) (he : items = l.map en) (hg : PG X tg (gOf X.K sh))
    (turn : ∀ a, a ∈ l → ∃ ρt, tgSet sh (en a) ρ1 = some ρt ∧ BJ X W body ρt (.nx ρ1)) (hs : ∀ x, foldedSetIterable iter X.env x = pure x := by intro _; rfl) : SJ X W (.For tg iter body [] pos) ρ (.nx ρ1) := by
  subst he
  refine sj_for C hi hg ((forJ_find l en (fun _ => none) fun a ha => ?_).1 (by induction l <;> simp_all)) hs
  obtain ⟨ρt, h1, h2⟩ := turn a ha
  exact ⟨ρt, h1, fun _ => h2, fun r z => by cases z⟩
end
end Pj

set_option Elab.async false
set_option linter.all false
set_option maxRecDepth 100000
namespace Pj
open PySem PySem.Spec PyProof.Rows L2
def backE (vs : List Nat) : Nat → En → En → En
  | i, s :: ρ, t :: ρe => (if vs.contains i then s else t) :: backE vs (i + 1) ρ ρe
  | _, _, _ => []
theorem backE_get (vs : List Nat) : ∀ (ρ ρe : En) (k i : Nat), ρ.length = ρe.length → (backE vs k ρ ρe)[i]? = if vs.contains (k + i) then ρ[i]? else ρe[i]?
  | [], [], k, i, _ => by unfold backE; simp
  | [], _ :: _, _, _, h => by cases h
  | _ :: _, [], _, _, h => by cases h
  | s :: ρ, t :: ρe, k, 0, _ => by
    unfold backE
    rw [List.getElem?_cons_zero, Nat.add_zero]
    split <;> rfl
  | s :: ρ, t :: ρe, k, i + 1, h => by
    unfold backE
    rw [List.getElem?_cons_succ, backE_get vs ρ ρe (k + 1) i (by simpa using h)]
    rw [show k + 1 + i = k + (i + 1) by omega]
    rfl
theorem backE_length (vs : List Nat) : ∀ (ρ ρe : En) (k : Nat), ρ.length = ρe.length → (backE vs k ρ ρe).length = ρe.length
  | [], [], k, _ => rfl
  | [], _ :: _, _, h => by cases h
  | _ :: _, [], _, h => by cases h
  | s :: ρ, t :: ρe, k, h => by
    unfold backE
    rw [List.length_cons, List.length_cons, backE_length vs ρ ρe (k + 1) (by simpa using h)]
theorem back_of {vs : List Nat} {ρ ρe ρ1 : En} (h : ρ1 = backE vs 0 ρ ρe) (hl : ρ.length = ρe.length) : Back vs ρ ρe ρ1 := by
  subst h
  refine ⟨backE_length vs ρ ρe 0 hl, fun i hi => ?_, fun i hi => ?_⟩
  · rw [backE_get vs ρ ρe 0 i hl, Nat.zero_add, if_neg (by simpa using hi)]
  · rw [backE_get vs ρ ρe 0 i hl, Nat.zero_add, if_pos (by simpa using hi)]
/-- a state threaded through a list -/
def mapS {α β S : Type} (f : S → α → β × S) : List α → S → List β × S
  | [], s => ([], s)
  | a :: l, s => ((f s a).1 :: (mapS f l (f s a).2).1, (mapS f l (f s a).2).2)
theorem mapS_length {α β S : Type} (f : S → α → β × S) : ∀ (l : List α) (s : S), (mapS f l s).1.length = l.length
  | [], _ => rfl
  | a :: l, s => by unfold mapS; rw [List.length_cons, List.length_cons, mapS_length f l]
section
variable {X : Cx} {W : WX} {lv : Nat} {scope : Scope} {own : List (Str × Nat)} {sh : TgS} {elt tg iter e a b c : Expr} {items ds : List PD} {ρ ρ1 ρ2 : En} {pos p : Pos} {d x y : PD} {α S : Type} {z1 z2 : Rs}
theorem lcturn {vs : List Nat} {ρt ρe : En} (h1 : tgSet sh x (wipeE ρ vs) = some ρt) (h2 : ∀ Y, BlkX X scope Y → EJ Y W0 elt ρt (.ok ρe (.va y))) (h3 : ρ1 = backE vs 0 ρ ρe) (h4 : ρ.length = ρe.length) :
    ∃ ρt ρe, tgSet sh x (wipeE ρ vs) = some ρt ∧ (∀ Y, BlkX X scope Y → EJ Y W0 elt ρt (.ok ρe (.va y))) ∧ Back vs ρ ρe ρ1 := ⟨ρt, ρe, h1, h2, back_of h3 h4⟩
theorem lcJ_fold {β : Type} {vs : List Nat} (E : S → En) (en : α → PD) (g : β → PD) (f : S → α → β × S) (Inv : S → Prop) : ∀ (l : List α) (s0 : S), Inv s0 →
    (∀ a s, a ∈ l → Inv s → (∃ ρt ρe, tgSet sh (en a) (wipeE (E s) vs) = some ρt ∧ (∀ Y, BlkX X scope Y → EJ Y W0 elt ρt (.ok ρe (.va (g (f s a).1)))) ∧ Back vs (E s) ρe (E (f s a).2)) ∧ Inv (f s a).2) →
    LcJ X scope vs sh elt [] (l.map en) (E s0) ((mapS f l s0).1.map g) (E (mapS f l s0).2)
  | [], s0, _, _ => .nil
  | a :: l, s0, h0, turn => by
    obtain ⟨⟨ρt, ρe, h1, h2, h3⟩, h4⟩ := turn a s0 List.mem_cons_self h0
    exact .keep h1 (fun _ _ => ifs_nil) h2 h3 (lcJ_fold E en g f Inv l _ h4 fun b s hb hs => turn b s (List.mem_cons_of_mem _ hb) hs)
/-- a, b = x, y of any kind -/
theorem sj_parR (i j : Nat) {x y : Str} {px py pt : Pos} {kt k2 pt2} (C : Ok X W lv) (ha : EJ X W a ρ (.ok ρ1 z1)) (hb : EJ X W b ρ1 (.ok ρ2 z2)) (hi : X.N[i]? = some x := by rfl) (hj : X.N[j]? = some y := by rfl) (hij : i ≠ j := by decide)
    (hx : X.env.scope.names.lookup x = some .local := by rfl) (hy : X.env.scope.names.lookup y = some .local := by rfl) (hli : i < ρ2.length := by exact Nat.le_of_ble_eq_true rfl) (hlj : j < ρ2.length := by exact Nat.le_of_ble_eq_true rfl)
    (he : starEach [a, b] X.env = (false, eval a X.env) :: starEach [b] X.env := by rfl) (he2 : starEach [b] X.env = (false, eval b X.env) :: starEach [] X.env := by rfl)
    (hw : swappedStores [.Tuple [.Name x px, .Name y py] kt pt] (.Tuple [a, b] k2 pt2) X.env = pure (some [x, y]) := by rfl)
    (hs : swapsWithSole [.Tuple [.Name x px, .Name y py] kt pt] (.Tuple [a, b] k2 pt2) pos.line X.env = pure false := by rfl) : SJ X W (.Assign [.Tuple [.Name x px, .Name y py] kt pt] (.Tuple [a, b] k2 pt2) pos) ρ (.nx ((ρ2.set i z1.sl).set j z2.sl)) := by
  obtain ⟨t, a1, a2⟩ := ha
  obtain ⟨u, b1, b2⟩ := hb
  refine ⟨_, ps_par C.calm C.nd hi hj hij hx hy (pa_cons a1 (pa_cons b1 pa_nil he2) he) hw hs, fun F H σ D R q => a2 F H σ _ R fun F1 H1 v1 x1 R1 q1 => b2 F1 H1 σ _ R1 fun F2 H2 v2 x2 R2 q2 => ?_⟩
  have q1' : RsOk X.K H F2 H2 σ ρ2 v1 z1 := by
    cases z1 with
    | va d => exact ⟨Dp.mono q1.1 x2.ff, fun _ _ z => nomatch z⟩
    | ow c =>
      obtain ⟨⟨p, o, rfl, f1, f2, f3, f4⟩, n⟩ := q1
      have n := n _ p rfl rfl
      refine ⟨⟨p, o, rfl, x2.nf _ _ f1 f2 n, x2.hh _ _ f2 n, CtOk.mono f3 x2.ff, f4⟩, fun c' p' _ e i z => ?_⟩
      cases e
      rcases x2.ow i p z with ⟨k, z'⟩ | z'
      · exact n k z'
      · rw [f2] at z'; cases z'
  obtain ⟨R3, g3⟩ := R2.set (H0 := H) (r := z1) hli q1'
  have q2' : RsOk X.K H F2 H2 (σ.set i (some v1)) (ρ2.set i z1.sl) v2 z2 := by
    have q2 := q2.pull x1.tr
    refine ⟨q2.1, fun c p e1 e2 k z => ?_⟩
    by_cases ek : k = i
    · subst ek
      obtain ⟨⟨s, c', h1, h2⟩, h3⟩ := z
      rw [List.getElem?_set_self hli] at h1
      rw [List.getElem?_set_self (by rw [R2.len]; exact hli)] at h3
      cases h1
      cases h3
      cases z1 with
      | va d => cases h2
      | ow c1 =>
        obtain ⟨p1, o1, e3, f1, f2, f3, f4⟩ := q1.1
        cases e3
        rename_i q2old
        subst e1
        cases e2
        obtain ⟨p2, o2, e4, g1, g2, g3, g4⟩ := q2old.1
        cases e4
        rw [f2] at g4
        cases g4
    · exact q2.2 c p e1 e2 k (z.set_ne ek)
  obtain ⟨R4, g4⟩ := R3.set (H0 := H) (r := z2) (i := j) (by rw [List.length_set]; exact hlj) q2'
  exact ⟨_, _, rfl, q F2 H2 _ (((x1.trans x2).set g3).set g4) R4⟩
end
end Pj

set_option Elab.async false
set_option linter.all false
set_option maxRecDepth 100000
namespace Pj
open PySem PySem.Spec PyProof.Rows L2
/-- as walk_of of the layer, with what is known of the top's other constants -/
theorem walk_ofX {l : PySem.W.OpenLaw} {n k : Nat} {q : Program} {loose : List Str} {XP : (Str → Option Value) → Heap → Prop} {YP : World → Heap → Prop} {d : DefRec} {K : Params → PySem.W.Frag} {CX : World → CXT} {sp : World → (Str → Option Value) → Sp} {x : Str}
    (hn : l.most = some n) (hn2 : n ≤ sizeLine) (hdf : d.params.defaults = []) (hr : Room k callerA)
    (hY : ∀ (w : World) (h : Heap), YP w h → (K w.params).In h)
    (F : ∀ (w : World) (mg : Str → Option Value) (fa : Addr) (h : Heap), (K w.params).In h → h.Ns mainGlobals mg → XP mg h → mg d.name = some (.ref fa) →
      ∃ fd : FuncData, (∀ (s : Shared) (u : Value), BindsTo s fd ⟨[u], []⟩ [(x, u)]) ∧
        ∀ base : Heap, (K w.params).In base → base.Ns mainGlobals mg → FnOk l.prog w (K w.params) mg base (CX w) k fa fd [x] (sp w mg))
    (hsp : ∀ (w : World) (mg : Str → Option Value) (H : Hp) (a : Addr) (ns : List Int), ns.length ≤ n → SqL (K w.params) H a (ns.map V.int) → sp w mg [.ref a] H (fun v _ => v = .bl true) fun _ _ _ => False)
    (hCX : ∀ (w : World) (H : Hp) (s : Shared) (e : Value) (s' : Shared), CX w [] H s (fun _ _ _ => False) e s' → False) :
    PySem.W.WalkO q loose XP YP l.row.toRowW d [] (fun f vs => PySem.call f vs) := by
  refine Att.attach_call hn hdf fun w s₀ s₁ mg mb fa o pm cd doc a vs ns G Y ho hd hcd hmg hobj hints hlen hg => ?_
  have KX := hY w _ Y
  obtain ⟨fd, hb, hF⟩ := F w mg fa _ KX G.T.g G.X hmg
  exact law_call KX G.T.g G.T.b G.T.builtins G.T.nolimit hg hobj hints (Nat.le_trans hlen hn2) hr hF hb (fun H hO hS => hsp w mg H a ns hlen hS) fun H e s' => hCX w H s₁ e s'
theorem cx_no {P : Program} {w : World} {o : List Env} {H : Hp} {s : Shared} {e : Value} {s' : Shared} (h : L2.CX P w o H s (fun _ _ _ => False) e s') : False := by
  obtain ⟨_, _, _, _, _, _, _, _, _, _, _, _, z⟩ := h
  exact z
/-- a constant of the module -/
structure GC (M : Md) (n : Str) (d : PD) : Prop where
  ex : ∃ u, M.mg n = some u ∧ GlV M.K u d
theorem gc_int {M : Md} {n : Str} {i : Int} (h : ∃ t, M.mg n = some (.int i t)) : GC M n (.int i) := by
  obtain ⟨t, h⟩ := h
  exact ⟨_, h, .int i, ⟨t, rfl⟩, fun _ => .int i⟩
theorem ej_const {X : Cx} {W : WX} {ρ : En} {n : Str} {d : PD} {pos : Pos} (h : GC (md X) n d) (hg : Gl X n := by rfl) (hd : (n == ("__debug__" : Str)) = false := by decide) : EJ X W (.Name n pos) ρ (.ok ρ (.va d)) := by
  obtain ⟨u, h1, h2⟩ := h.ex
  exact ej_glob h1 h2 hg hd
theorem gc_loose {M : Md} {lv : List (Str × PySem.W.WData)} {h : Heap} {n : Str} {i : Int} (x : PySem.W.LooseAre lv M.mg h) (hm : (n, PySem.W.WData.int i) ∈ lv) : GC M n (.int i) := by
  obtain ⟨v, a, b⟩ := x.val _ hm
  cases b
  exact gc_int ⟨_, a⟩
theorem gc_two {M : Md} {n x y : Str} {a : Addr} {od : Option Addr} {k : Nat} {sl : Array (Option Value)} {t1 t2} (h : M.mg n = some (.ref a)) (l : M.K.lookup a = some ⟨.type "tuple", od, .seq #[.str x t1, .str y t2] k, sl⟩) : GC M n (.tuple [.str x, .str y]) :=
  ⟨_, h, .ref a, rfl, fun F => .tup (.inr ⟨_, _, _, l, rfl, rfl, by rw [sizeLine_eq]; exact Nat.le_of_ble_eq_true rfl, .cons (show RelV (.str x) _ from ⟨_, rfl⟩) (.cons (show RelV (.str y) _ from ⟨_, rfl⟩) .nil)⟩) (.cons (.str x) (.cons (.str y) .nil))⟩
end Pj

set_option Elab.async false
set_option linter.all false
set_option maxRecDepth 100000
namespace Pj
open PySem PySem.Spec PyProof.Rows L2
section
variable {X : Cx} {W : WX} {lv : Nat} {body ta tb rest : List Stmt} {st : Stmt} {ρ ρ1 ρ2 : En} {r : Rs} {n : Str} {p : Option (Str × PD)} {o : SO} {po : PO} {k : Bool} {c e tg iter : Expr} {pos : Pos} {sh : TgS} {items items2 : List PD} {α S : Type}
theorem rngD0 {n : Nat} : rngD 0 n = (List.range n).map fun k => PyData.int (k : Nat) := by
  unfold rngD
  apply List.map_congr_left
  intro a _
  rw [Int.zero_add]
theorem rngD1 {n : Nat} : rngD 1 n = (List.range n).map fun k => PyData.int ((k + 1 : Nat) : Int) := by
  unfold rngD
  apply List.map_congr_left
  intro a _
  congr 1
  omega
theorem ItJ.to (h : ItJ X W tg iter ρ ρ1 items) (e : items = items2) : ItJ X W tg iter ρ ρ1 items2 := e ▸ h
theorem EJ.to {d d' : PD} (h : EJ X W e ρ (.ok ρ1 (.va d))) (e1 : d = d') : EJ X W e ρ (.ok ρ1 (.va d')) := e1 ▸ h
theorem SJ.toE (h : SJ X W st ρ (.nx ρ1)) (e1 : ρ1 = ρ2) : SJ X W st ρ (.nx ρ2) := e1 ▸ h
theorem BJ.toE {b : List Stmt} (h : BJ X W b ρ (.nx ρ1)) (e1 : ρ1 = ρ2) : BJ X W b ρ (.nx ρ2) := e1 ▸ h
/-- a for that keeps an invariant of the environment -/
theorem forJ_inv (en : α → PD) (Inv : Nat → En → Prop) : ∀ (l : List α) (j : Nat) (ρ : En), Inv j ρ → (∀ i a ρ, l[i]? = some a → Inv (j + i) ρ → ∃ ρt ρ', tgSet sh (en a) ρ = some ρt ∧ BJ X W body ρt (.nx ρ') ∧ Inv (j + i + 1) ρ') →
    ∃ ρ', ForJ X W sh body (l.map en) ρ (.nx ρ') ∧ Inv (j + l.length) ρ'
  | [], j, ρ, h0, _ => ⟨ρ, .nil, h0⟩
  | a :: l, j, ρ, h0, turn => by
    obtain ⟨ρt, ρ', h1, h2, h3⟩ := turn 0 a ρ rfl h0
    obtain ⟨ρ2, i1, i2⟩ := forJ_inv en Inv l (j + 1) ρ' h3 fun i b s hb hs => by
      have e : j + 1 + i = j + (i + 1) := by omega
      rw [e] at hs ⊢
      exact turn (i + 1) b s (by simpa using hb) hs
    exact ⟨ρ2, .nx h1 h2 i1, by rw [List.length_cons, show j + (l.length + 1) = j + 1 + l.length by omega]; exact i2⟩
theorem sj_inv (Inv : Nat → En → Prop) (l : List α) (en : α → PD) (C : Ok X W lv) (hi : ItJ X W tg iter ρ ρ1 items) (he : items = l.map en) (hg : PG X tg (gOf X.K sh)) (h0 : Inv 0 ρ1)
    (turn : ∀ i a ρ, l[i]? = some a → Inv i ρ → ∃ ρt ρ', tgSet sh (en a) ρ = some ρt ∧ BJ X W body ρt (.nx ρ') ∧ Inv (i + 1) ρ') (hs : ∀ x, foldedSetIterable iter X.env x = pure x := by intro _; rfl) :
    ∃ ρ', SJ X W (.For tg iter body [] pos) ρ (.nx ρ') ∧ Inv l.length ρ' := by
  subst he
  obtain ⟨ρ', h1, h2⟩ := forJ_inv (X := X) (W := W) (body := body) (sh := sh) en Inv l 0 ρ1 h0 fun i a s ha h => by
    rw [Nat.zero_add] at h ⊢
    exact turn i a s ha h
  rw [Nat.zero_add] at h2
  exact ⟨ρ', sj_for C hi hg h1 hs, h2⟩
/-- the same ahead of the rest of a block -/
theorem bj_inv {o : SO} (Inv : Nat → En → Prop) (l : List α) (en : α → PD) (C : Ok X W lv) (hi : ItJ X W tg iter ρ ρ1 items) (he : items = l.map en) (hg : PG X tg (gOf X.K sh)) (h0 : Inv 0 ρ1)
    (turn : ∀ i a ρ, l[i]? = some a → Inv i ρ → ∃ ρt ρ', tgSet sh (en a) ρ = some ρt ∧ BJ X W body ρt (.nx ρ') ∧ Inv (i + 1) ρ') (go : ∀ ρ', Inv l.length ρ' → BJ X W rest ρ' o) (hs : ∀ x, foldedSetIterable iter X.env x = pure x := by intro _; rfl) :
    BJ X W (.For tg iter body [] pos :: rest) ρ o := by
  obtain ⟨ρ', h1, h2⟩ := sj_inv (pos := pos) Inv l en C hi he hg h0 turn hs
  exact bj_cons h1 (go ρ' h2)
theorem fj_inv (Inv : Nat → En → Prop) (l : List α) (en : α → PD) (C : Ok X W lv) (hi : ItJ X W tg iter ρ ρ1 items) (he : items = l.map en) (hg : PG X tg (gOf X.K sh)) (h0 : Inv 0 ρ1)
    (turn : ∀ i a ρ, l[i]? = some a → Inv i ρ → ∃ ρt ρ', tgSet sh (en a) ρ = some ρt ∧ BJ X W body ρt (.nx ρ') ∧ Inv (i + 1) ρ') (go : ∀ ρ', Inv l.length ρ' → FJ X W rest ρ' po) (hs : ∀ x, foldedSetIterable iter X.env x = pure x := by intro _; rfl) :
    FJ X W (.For tg iter body [] pos :: rest) ρ po := by
  obtain ⟨ρ', h1, h2⟩ := sj_inv (pos := pos) Inv l en C hi he hg h0 turn hs
  exact fj_cons h1 (go ρ' h2)
theorem findSome_mapR {α β γ : Type} (f : α → Option β) (h : β → γ) : ∀ l : List α, l.findSome? (fun a => (f a).map h) = (l.findSome? f).map h
  | [] => rfl
  | a :: l => by
    rw [List.findSome?_cons, List.findSome?_cons]
    cases f a with
    | none => exact findSome_mapR f h l
    | some y => rfl
/-- a block that finds something, or changes the environment to ρ2 -/
def SrJ (X : Cx) (W : WX) (body : List Stmt) (ρ ρ2 : En) : Option Rs → Prop
  | none => BJ X W body ρ (.nx ρ2)
  | some r => ∃ ρ', BJ X W body ρ (.rt ρ' r)
theorem SrJ.out {g : Option Rs} (h : SrJ X W body ρ ρ2 g) : (g = none → BJ X W body ρ (.nx ρ2)) ∧ ∀ r, g = some r → ∃ ρ', BJ X W body ρ (.rt ρ' r) :=
  ⟨fun e => by subst e; exact h, fun r e => by subst e; exact h⟩
theorem sr_for {tail : List Stmt} (l : List α) (en : α → PD) (g : α → Option Rs) (C : Ok X W lv) (hi : ItJ X W tg iter ρ ρ1 items) (he : items = l.map en) (hg : PG X tg (gOf X.K sh))
    (turn : ∀ a, a ∈ l → ∃ ρt, tgSet sh (en a) ρ1 = some ρt ∧ SrJ X W body ρt ρ1 (g a)) (go : SrJ X W tail ρ1 ρ2 none := by exact bj_done) (hs : ∀ x, foldedSetIterable iter X.env x = pure x := by intro _; rfl) :
    SrJ X W (.For tg iter body [] pos :: tail) ρ ρ2 (l.findSome? g) := by
  subst he
  obtain ⟨a, b⟩ := forJ_find (W := W) l en g fun a ha => by
    obtain ⟨ρt, h1, h2⟩ := turn a ha
    exact ⟨ρt, h1, h2.out⟩
  cases e : l.findSome? g with
  | none => exact bj_cons (sj_for C hi hg (a e) hs) go
  | some r =>
    obtain ⟨ρ', q⟩ := b r e
    exact ⟨_, bj_out (sj_for C hi hg q hs)⟩
theorem sr_cons {g : Option Rs} (h : SJ X W st ρ (.nx ρ1)) (go : SrJ X W rest ρ1 ρ2 g) : SrJ X W (st :: rest) ρ ρ2 g := by
  cases g with
  | none => exact bj_cons h go
  | some r =>
    obtain ⟨ρ', q⟩ := go
    exact ⟨ρ', bj_cons h q⟩
/-- if test: return r -/
theorem sr_ifR {g : Option Rs} (hc : TJ X W c ρ ρ1 k) (h1 : k = true → ∃ r ρ', BJ X W ta ρ1 (.rt ρ' r) ∧ g = some r) (h2 : k = false → SrJ X W rest ρ1 ρ2 g) : SrJ X W (.If c ta [] pos :: rest) ρ ρ2 g := by
  cases k with
  | true =>
    obtain ⟨r, ρ', q, e⟩ := h1 rfl
    subst e
    exact ⟨ρ', bj_ifT hc rfl q⟩
  | false =>
    have h := h2 rfl
    cases g with
    | none => exact bj_ifF hc rfl h
    | some r =>
      obtain ⟨ρ', q⟩ := h
      exact ⟨ρ', bj_cons (sj_if hc (fun z => nomatch z) fun _ => bj_nil) q⟩
theorem fj_search (l : List α) (en : α → PD) (g : α → Option Rs) (C : Ok X W lv) (hi : ItJ X W tg iter ρ ρ1 items) (he : items = l.map en) (hg : PG X tg (gOf X.K sh))
    (turn : ∀ a, a ∈ l → ∃ ρt, tgSet sh (en a) ρ1 = some ρt ∧ SrJ X W body ρt ρ1 (g a))
    (h1 : l.findSome? g = none → FJ X W rest ρ1 po) (h2 : ∀ r, l.findSome? g = some r → po = .ok r) (hs : ∀ x, foldedSetIterable iter X.env x = pure x := by intro _; rfl) : FJ X W (.For tg iter body [] pos :: rest) ρ po :=
  fj_find l en g C hi he hg (fun a ha => by
    obtain ⟨ρt, h1, h2⟩ := turn a ha
    exact ⟨ρt, h1, h2.out⟩) h1 h2 hs
end
end Pj

set_option Elab.async false
set_option linter.all false
set_option maxRecDepth 100000
namespace Pj
open PySem PySem.Spec PyProof.Rows L2
/-! ### the program's values, as plain functions -/
structure Ru where
  dec : Nat
  up : Bool
def half (b : Bool) : Str := if b then "up" else "down"
def eRu (r : Ru) : PD := .tuple [.int r.dec, .str (half r.up)]
def Ru.ok (r : Ru) : Prop := r.dec ≤ 2
def scl (r : Ru) : Int := match r.dec with
  | 0 => 100
  | 1 => 1000
  | _ => 10000
theorem scl_pos (r : Ru) : 0 < scl r ∧ scl r ≤ 10000 := by unfold scl; split <;> decide
theorem scl_at {r : Ru} (h : r.ok) : atI [PyData.int 100, .int 1000, .int 10000] (r.dec : Int) = some (.int (scl r)) := by
  obtain ⟨dec, up⟩ := r
  exact match dec, h with
    | 0, _ => rfl
    | 1, _ => rfl
    | 2, _ => rfl
theorem half_up (b : Bool) : (half b == ("up" : Str)) = b := by cases b <;> decide +kernel
theorem sh_half (b : Bool) : SeqAt.shaped (.str (half b)) = true := by cases b <;> decide +kernel
theorem sh_up : SeqAt.shaped (.str "up") = true := by decide +kernel
def isI (v : PD) (lo hi : Int) : Bool := match v with
  | .int i => decide (lo ≤ i) && decide (i ≤ hi)
  | _ => false
def isRule : PD → Bool
  | .tuple [a, .str s] => isI a 0 2 && (s == ("up" : Str) || s == ("down" : Str))
  | _ => false
theorem isRule_eRu {r : Ru} (h : r.ok) : isRule (eRu r) = true := by
  obtain ⟨dec, up⟩ := r
  exact match dec, up, h with
    | 0, true, _ => by decide +kernel
    | 1, true, _ => by decide +kernel
    | 2, true, _ => by decide +kernel
    | 0, false, _ => by decide +kernel
    | 1, false, _ => by decide +kernel
    | 2, false, _ => by decide +kernel
theorem isRule_elim {d : PD} (h : isRule d = true) : ∃ r : Ru, r.ok ∧ d = eRu r := by
  unfold isRule at h
  split at h
  · rename_i a s
    rw [Bool.and_eq_true] at h
    obtain ⟨h1, h2⟩ := h
    unfold isI at h1
    split at h1
    · rename_i i
      rw [Bool.and_eq_true, decide_eq_true_eq, decide_eq_true_eq] at h1
      rw [Bool.or_eq_true, beq_iff_eq, beq_iff_eq] at h2
      refine ⟨⟨i.toNat, s == ("up" : Str)⟩, by show i.toNat ≤ 2; omega, ?_⟩
      unfold eRu
      rw [show (((⟨i.toNat, s == ("up" : Str)⟩ : Ru).dec : Nat) : Int) = i by show (i.toNat : Int) = i; omega]
      rcases h2 with e | e
      · subst e
        rw [show half ((⟨i.toNat, ("up" : Str) == ("up" : Str)⟩ : Ru).up) = "up" from (show half (("up" : Str) == ("up" : Str)) = "up" by decide +kernel)]
      · subst e
        rw [show half ((⟨i.toNat, ("down" : Str) == ("up" : Str)⟩ : Ru).up) = "down" from (show half (("down" : Str) == ("up" : Str)) = "down" by decide +kernel)]
    · cases h1
  · cases h
def eInts (ns : List Int) : PD := .tuple (ns.map .int)
def toI : PD → Int
  | .int i => i
  | _ => 0
def isVotes : PD → Bool
  | .tuple ds => decide (2 ≤ ds.length) && decide (ds.length ≤ 6) && ds.all (fun d => isI d 0 1000000) &&
      (let s := (ds.map toI).sum; decide (1 ≤ s) && decide (s ≤ 1000000))
  | _ => false
def isVotesI (ns : List Int) : Prop := 2 ≤ ns.length ∧ ns.length ≤ 6 ∧ (∀ n ∈ ns, 0 ≤ n ∧ n ≤ 1000000) ∧ 1 ≤ ns.sum ∧ ns.sum ≤ 1000000
theorem isI_ints {ns : List Int} {lo hi : Int} : (ns.map PyData.int).all (fun d => isI d lo hi) = true ↔ ∀ n ∈ ns, lo ≤ n ∧ n ≤ hi := by
  simp [isI]
theorem isVotes_eInts {ns : List Int} (h : isVotesI ns) : isVotes (eInts ns) = true := by
  obtain ⟨h1, h2, h3, h4, h5⟩ := h
  unfold isVotes eInts
  have e : (ns.map PyData.int).map toI = ns := by
    rw [List.map_map]
    conv => rhs; rw [← List.map_id ns]
    rfl
  simp only [e, List.length_map, Bool.and_eq_true, decide_eq_true_eq]
  exact ⟨⟨⟨h1, h2⟩, isI_ints.mpr h3⟩, h4, h5⟩
theorem allI_elim {lo hi : Int} : ∀ {ds : List PD}, ds.all (fun d => isI d lo hi) = true → ∃ ns : List Int, ds = ns.map .int
  | [], _ => ⟨[], rfl⟩
  | d :: ds, h => by
    rw [List.all_cons, Bool.and_eq_true] at h
    obtain ⟨ns, e⟩ := allI_elim h.2
    cases d with
    | int i => exact ⟨i :: ns, by rw [e]; rfl⟩
    | _ => cases h.1
theorem isVotes_elim {d : PD} (h : isVotes d = true) : ∃ ns, isVotesI ns ∧ d = eInts ns := by
  cases d with
  | tuple ds =>
    unfold isVotes at h
    simp only [Bool.and_eq_true, decide_eq_true_eq] at h
    obtain ⟨⟨⟨h1, h2⟩, h3⟩, h4, h5⟩ := h
    obtain ⟨ns, rfl⟩ := allI_elim h3
    have e : (ns.map PyData.int).map toI = ns := by
      rw [List.map_map]
      conv => rhs; rw [← List.map_id ns]
      rfl
    rw [e] at h4 h5
    rw [List.length_map] at h1 h2
    exact ⟨ns, ⟨h1, h2, isI_ints.mp h3, h4, h5⟩, rfl⟩
  | _ => cases h
def shownM (r : Ru) (v t : Int) : Int := (if r.up then 2 * scl r * v + t else 2 * scl r * v + t - 1) / (2 * t)
def lowM (r : Ru) (t n : Int) : Int := max (if r.up then 0 - (0 - (2 * n - 1) * t) / (2 * scl r) else (2 * n - 1) * t / (2 * scl r) + 1) 0
def highM (r : Ru) (t n : Int) : Int := min (if r.up then ((2 * n + 1) * t - 1) / (2 * scl r) else (2 * n + 1) * t / (2 * scl r)) t
def rangeM (r : Ru) (t n : Int) : Option (Int × Int) := if lowM r t n ≤ highM r t n then some (lowM r t n, highM r t n) else none
def ePr (p : Int × Int) : PD := .tuple [.int p.1, .int p.2]
def eOp : Option (Int × Int) → PD
  | none => .none
  | some p => ePr p
def eOI : Option Int → PD
  | none => .none
  | some p => .int p
/-! ### promises -/
def M_is_integer (ds : List PD) (o : PO) : Prop := ∃ v lo hi, ds = [v, .int lo, .int hi] ∧ o = .ok (.va (.bool (isI v lo hi)))
def M_is_rule (ds : List PD) (o : PO) : Prop := ∃ v, ds = [v] ∧ o = .ok (.va (.bool (isRule v)))
def M_require_rule (ds : List PD) (o : PO) : Prop := ∃ v, ds = [v] ∧ o = if isRule v then .ok (.va .none) else .ex "InvalidRule" none
def M_scale_of (ds : List PD) (o : PO) : Prop := ∃ r, Ru.ok r ∧ ds = [eRu r] ∧ o = .ok (.va (.int (scl r)))
def M_are_votes (ds : List PD) (o : PO) : Prop := ∃ v, ds = [v] ∧ o = .ok (.va (.bool (isVotes v)))
def M_require_votes (ds : List PD) (o : PO) : Prop := ∃ v, ds = [v] ∧ o = if isVotes v then .ok (.va .none) else .ex "InvalidVotes" none
def M_shown (ds : List PD) (o : PO) : Prop := ∃ r v t, Ru.ok r ∧ 0 < t ∧ t ≤ 1000000 ∧ ds = [eRu r, .int v, .int t] ∧ o = .ok (.va (.int (shownM r v t)))
def M_shown_numbers (ds : List PD) (o : PO) : Prop := ∃ d e, ds = [d, e] ∧ ((isRule d = false ∧ o = .ex "InvalidRule" none) ∨ (isRule d = true ∧ isVotes e = false ∧ o = .ex "InvalidVotes" none) ∨
  ∃ r ns, Ru.ok r ∧ isVotesI ns ∧ d = eRu r ∧ e = eInts ns ∧ o = .ok (.ow (.lst (ns.map fun v => .int (shownM r v ns.sum)))))
def M_range_for (ds : List PD) (o : PO) : Prop := ∃ r t n, Ru.ok r ∧ 0 < t ∧ t ≤ 1000000 ∧ ds = [eRu r, .int t, .int n] ∧ o = .ok (.va (eOp (rangeM r t n)))
def fewAt (r : Ru) (own present n : Int) (i : Nat) : Option Int := match rangeM r (present + i) n with
  | some p => if p.1 ≤ own + i ∧ own ≤ p.2 then some i else none
  | none => none
def fewM (r : Ru) (own present n : Int) (k : Nat) : Option Int := (List.range k).findSome? (fewAt r own present n)
/-- fewest_more where all its arguments are good -/
def M_fewest_more (ds : List PD) (o : PO) : Prop := ∃ (r : Ru) (ns : List Int) (i : Nat) (n m own : Int), Ru.ok r ∧ isVotesI ns ∧ ns[i]? = some own ∧ 0 ≤ n ∧ n ≤ scl r ∧ 1 ≤ m ∧ m ≤ 10000 ∧ ds = [eRu r, eInts ns, .int i, .int n, .int m] ∧
  o = .ok (.va (eOI (fewM r own ns.sum n (m + 1 - ns.sum).toNat)))
section
variable {r : Ru} {v t n lo hi : Int} {d : PD} {ns : List Int}
theorem m_is_integer : M_is_integer [d, .int lo, .int hi] (.ok (.va (.bool (isI d lo hi)))) := ⟨_, _, _, rfl, rfl⟩
theorem m_is_rule : M_is_rule [d] (.ok (.va (.bool (isRule d)))) := ⟨_, rfl, rfl⟩
theorem m_require_rule (h : r.ok) : M_require_rule [eRu r] (.ok (.va .none)) := ⟨_, rfl, by rw [isRule_eRu h]; rfl⟩
theorem m_require_ruleX (h : isRule d = false) : M_require_rule [d] (.ex "InvalidRule" none) := ⟨_, rfl, by rw [h]; rfl⟩
theorem m_scale_of (h : r.ok) : M_scale_of [eRu r] (.ok (.va (.int (scl r)))) := ⟨r, h, rfl, rfl⟩
theorem m_are_votes : M_are_votes [d] (.ok (.va (.bool (isVotes d)))) := ⟨_, rfl, rfl⟩
theorem m_require_votes (h : isVotesI ns) : M_require_votes [eInts ns] (.ok (.va .none)) := ⟨_, rfl, by rw [isVotes_eInts h]; rfl⟩
theorem m_require_votesX (h : isVotes d = false) : M_require_votes [d] (.ex "InvalidVotes" none) := ⟨_, rfl, by rw [h]; rfl⟩
theorem m_shown (h : r.ok) (h1 : 0 < t) (h2 : t ≤ 1000000) : M_shown [eRu r, .int v, .int t] (.ok (.va (.int (shownM r v t)))) := ⟨r, v, t, h, h1, h2, rfl, rfl⟩
theorem m_range_for (h : r.ok) (h1 : 0 < t) (h2 : t ≤ 1000000) : M_range_for [eRu r, .int t, .int n] (.ok (.va (eOp (rangeM r t n)))) := ⟨r, t, n, h, h1, h2, rfl, rfl⟩
theorem m_shown_numbers (h : r.ok) (h1 : isVotesI ns) : M_shown_numbers [eRu r, eInts ns] (.ok (.ow (.lst (ns.map fun v => .int (shownM r v ns.sum))))) := ⟨_, _, rfl, .inr (.inr ⟨r, ns, h, h1, rfl, rfl, rfl⟩)⟩
theorem m_fewest_more {i : Nat} {m own : Int} (h : r.ok) (h1 : isVotesI ns) (h2 : ns[i]? = some own) (h3 : 0 ≤ n) (h4 : n ≤ scl r) (h5 : 1 ≤ m) (h6 : m ≤ 10000) :
    M_fewest_more [eRu r, eInts ns, .int i, .int n, .int m] (.ok (.va (eOI (fewM r own ns.sum n (m + 1 - ns.sum).toNat)))) := ⟨r, ns, i, n, m, own, h, h1, h2, h3, h4, h5, h6, rfl, rfl⟩
end
/-- the built-ins are the built-ins -/
structure Bl (mg : Str → Option Value) : Prop where
  isinstance : mg "isinstance" = none
  int : mg "int" = none
  bool : mg "bool" = none
  str : mg "str" = none
  tuple : mg "tuple" = none
  list : mg "list" = none
  set : mg "set" = none
  dict : mg "dict" = none
  len : mg "len" = none
  max : mg "max" = none
  min : mg "min" = none
  sum : mg "sum" = none
  all : mg "all" = none
  any : mg "any" = none
  range : mg "range" = none
  zip : mg "zip" = none
  enumerate : mg "enumerate" = none
  reversed : mg "reversed" = none
  sorted : mg "sorted" = none
end Pj

set_option Elab.async false
set_option linter.all false
set_option maxRecDepth 100000
namespace Pj
open PySem PySem.Spec PyProof.Rows L2
/-! ### the laws' own draws -/
structure Bg where
  c : Int
  s : Int
def Bg.ok (b : Bg) : Prop := 0 ≤ b.c ∧ b.c < 10 ^ 60 ∧ 0 ≤ b.s ∧ b.s < 2147483647
def eBg (b : Bg) : Ct := .lst [.int b.c, .int b.s]
def cellM (ns : List Int) (k : Nat) : Int := match ns[k]? with
  | some n => n % 10 ^ 60
  | none => 0
def seedM (c : Int) (k : Nat) : Int := 1 + (c % 2147483629 * 16807 + 40009 * k * k + 7919 * k + 1009) % 2147483645
def bagM (ns : List Int) (k : Nat) : Bg := if cellM ns k < 10 ^ 18 then ⟨0, seedM (cellM ns k) k⟩ else ⟨cellM ns k, seedM (cellM ns k) k⟩
def lcgM (s : Int) : Int := s * 48271 % 2147483647
def takeM (b : Bg) (n : Int) : Int × Bg := if 0 < b.c then (b.c % n, ⟨b.c / n, b.s⟩) else (lcgM b.s / 13 * (lcgM b.s % 32749 + 17) % 2147483629 / 32 % n, ⟨b.c, lcgM b.s⟩)
theorem cellM_ok (ns : List Int) (k : Nat) : 0 ≤ cellM ns k ∧ cellM ns k < 10 ^ 60 := by
  unfold cellM
  split
  · exact ⟨Int.emod_nonneg _ (by decide), Int.emod_lt_of_pos _ (by decide)⟩
  · decide
theorem bagM_ok (ns : List Int) (k : Nat) : (bagM ns k).ok := by
  obtain ⟨h1, h2⟩ := cellM_ok ns k
  have h3 : 0 ≤ seedM (cellM ns k) k ∧ seedM (cellM ns k) k < 2147483647 := by
    unfold seedM
    have a := Int.emod_nonneg (cellM ns k % 2147483629 * 16807 + 40009 * k * k + 7919 * k + 1009) (show (2147483645 : Int) ≠ 0 by decide)
    have b := Int.emod_lt_of_pos (cellM ns k % 2147483629 * 16807 + 40009 * k * k + 7919 * k + 1009) (show (0 : Int) < 2147483645 by decide)
    omega
  unfold bagM
  split
  · exact ⟨Int.le_refl 0, (by decide : (0 : Int) < 10 ^ 60), h3.1, h3.2⟩
  · exact ⟨h1, h2, h3.1, h3.2⟩
theorem takeM_ok {b : Bg} {n : Int} (h : b.ok) (hn : 0 < n) : (takeM b n).2.ok ∧ 0 ≤ (takeM b n).1 ∧ (takeM b n).1 < n := by
  obtain ⟨h1, h2, h3, h4⟩ := h
  unfold takeM
  have l1 : 0 ≤ lcgM b.s := Int.emod_nonneg _ (by decide)
  have l2 : lcgM b.s < 2147483647 := Int.emod_lt_of_pos _ (by decide)
  split
  · refine ⟨⟨Int.ediv_nonneg h1 (by omega), ?_, h3, h4⟩, Int.emod_nonneg _ (by omega), Int.emod_lt_of_pos _ hn⟩
    exact Int.lt_of_le_of_lt (Int.ediv_le_self n h1) h2
  · exact ⟨⟨h1, h2, l1, l2⟩, Int.emod_nonneg _ (by omega), Int.emod_lt_of_pos _ hn⟩
def M_law_bag (ds : List PD) (o : PO) : Prop := ∃ (ns : List Int) (k : Nat), k ≤ 100 ∧ ds = [.list (ns.map .int), .int k] ∧ o = .ok (.ow (eBg (bagM ns k)))
def M_law_take (c : Ct) (ds : List PD) (c' : Ct) (o : PO) : Prop := ∃ (b : Bg) (n : Int), b.ok ∧ 0 < n ∧ n < 1073741824 ∧ c = eBg b ∧ ds = [.int n] ∧ c' = eBg (takeM b n).2 ∧ o = .ok (.va (.int (takeM b n).1))
def pickM (ds : List PD) (i : Int) : PD := ds.getD i.toNat .none
def M_law_of (c : Ct) (ds : List PD) (c' : Ct) (o : PO) : Prop := ∃ (b : Bg) (x : PD) (es : List PD), b.ok ∧ itemsOf x = some es ∧ 0 < es.length ∧ es.length < 1073741824 ∧ c = eBg b ∧ ds = [x] ∧ c' = eBg (takeM b es.length).2 ∧ o = .ok (.va (pickM es (takeM b es.length).1))
def numberM (r : Ru) (v t : Int) : Int := if 2 * (scl r * v % t) > t ∨ (2 * (scl r * v % t) = t ∧ r.up = true) then scl r * v / t + 1 else scl r * v / t
def M_law_number (ds : List PD) (o : PO) : Prop := ∃ r v t, Ru.ok r ∧ 0 < t ∧ t ≤ 1000000 ∧ ds = [eRu r, .int v, .int t] ∧ o = .ok (.va (.int (numberM r v t)))
section
variable {r : Ru} {v t n : Int} {d x : PD} {ns : List Int} {k : Nat} {b : Bg} {es : List PD}
theorem m_law_bag (h : k ≤ 100) : M_law_bag [.list (ns.map .int), .int k] (.ok (.ow (eBg (bagM ns k)))) := ⟨_, _, h, rfl, rfl⟩
theorem m_law_take (h : b.ok) (h1 : 0 < n) (h2 : n < 1073741824) : M_law_take (eBg b) [.int n] (eBg (takeM b n).2) (.ok (.va (.int (takeM b n).1))) := ⟨b, n, h, h1, h2, rfl, rfl, rfl, rfl⟩
theorem m_law_of (h : b.ok) (h1 : itemsOf x = some es) (h2 : 0 < es.length) (h3 : es.length < 1073741824) : M_law_of (eBg b) [x] (eBg (takeM b es.length).2) (.ok (.va (pickM es (takeM b es.length).1))) := ⟨b, x, es, h, h1, h2, h3, rfl, rfl, rfl, rfl⟩
theorem m_law_scale (h : r.ok) : M_scale_of [eRu r] (.ok (.va (.int (scl r)))) := ⟨r, h, rfl, rfl⟩
theorem m_law_number (h : r.ok) (h1 : 0 < t) (h2 : t ≤ 1000000) : M_law_number [eRu r, .int v, .int t] (.ok (.va (.int (numberM r v t)))) := ⟨r, v, t, h, h1, h2, rfl, rfl⟩
end
/-! ### a drawn poll -/
structure PollS where
  votes : List Int
  rows : List (List Int)
  shots : List (Int × List Int)
  bag : Bg
def eShI (p : Int × List Int) : PD := .tuple [.int p.1, eInts p.2]
def drawsM (n : Nat) (w : Int) (b : Bg) : List Int × Bg := mapS (fun b (_ : Nat) => takeM b w) (List.range n) b
def growOne (g : Int) (b : Bg) (v : Int) : Int × Bg := (v + (takeM b (g + 1)).1 * (takeM (takeM b (g + 1)).2 2).1, (takeM (takeM b (g + 1)).2 2).2)
def growsOf (w : Int) (b : Bg) : Int := if (takeM b 3).1 = 0 then 1 else if (takeM b 3).1 = 1 then 2 else w / 3 + 1
def numsM (r : Ru) (votes : List Int) : List Int := votes.map fun v => numberM r v votes.sum
def pollStep (r : Ru) (w : Int) (s : PollS) (_ : Nat) : PollS :=
  ⟨(mapS (growOne (growsOf w s.bag)) s.votes (takeM s.bag 3).2).1, s.rows ++ [s.votes], s.shots ++ [(s.votes.sum, numsM r s.votes)], (mapS (growOne (growsOf w s.bag)) s.votes (takeM s.bag 3).2).2⟩
/-- ahead of the loop: the votes, the number of turns, the bag -/
def pollVotes (n : Nat) (w : Int) (b : Bg) : List Int :=
  (drawsM n (w + 1) b).1.set (takeM (takeM (drawsM n (w + 1) b).2 w).2 n).1.toNat (1 + (takeM (drawsM n (w + 1) b).2 w).1)
def pollBag (n : Nat) (w : Int) (b : Bg) : Bg := (takeM (takeM (drawsM n (w + 1) b).2 w).2 n).2
def pollTurns (n : Nat) (m w : Int) (b : Bg) : Int := 1 + (takeM (pollBag n w b) m).1
def pollM (r : Ru) (n : Nat) (m w : Int) (b : Bg) : PollS :=
  (List.range (pollTurns n m w b).toNat).foldl (pollStep r w) ⟨pollVotes n w b, [], [], (takeM (pollBag n w b) m).2⟩
def leAll (a b : List Int) : Prop := ∀ (i : Nat) (x y : Int), a[i]? = some x → b[i]? = some y → x ≤ y
structure PollInv (r : Ru) (n : Nat) (w : Int) (i : Nat) (s : PollS) : Prop where
  len : s.votes.length = n
  pos : ∀ v ∈ s.votes, 0 ≤ v
  low : 1 ≤ s.votes.sum
  top : ∀ v ∈ s.votes, v ≤ w + i * (w / 3 + 2)
  bag : s.bag.ok
  cnt : s.rows.length = i
  rows : ∀ v ∈ s.rows, v.length = n ∧ isVotesI v
  shots : s.shots = s.rows.map fun v => (v.sum, numsM r v)
  up : (s.rows ++ [s.votes]).Pairwise leAll
  rtop : ∀ v ∈ s.rows, ∀ y ∈ v, y + (w / 3 + 2) ≤ w + i * (w / 3 + 2)
theorem sum_bounds {B : Int} : ∀ {l : List Int}, (∀ v ∈ l, 0 ≤ v ∧ v ≤ B) → 0 ≤ l.sum ∧ l.sum ≤ l.length * B
  | [], _ => by simp
  | v :: l, h => by
    obtain ⟨h1, h2⟩ := sum_bounds (l := l) fun x hx => h x (List.mem_cons_of_mem _ hx)
    have h3 := h v List.mem_cons_self
    rw [List.sum_cons, List.length_cons]
    have e : ((l.length + 1 : Nat) : Int) * B = l.length * B + B := by
      rw [Int.natCast_add, Int.add_mul]; simp
    omega
theorem sum_le_leAll : ∀ {a b : List Int}, a.length = b.length → leAll a b → a.sum ≤ b.sum
  | [], [], _, _ => by simp
  | [], _ :: _, h, _ => by cases h
  | _ :: _, [], h, _ => by cases h
  | x :: a, y :: b, h, l => by
    have h1 := l 0 x y rfl rfl
    have h2 := sum_le_leAll (a := a) (b := b) (by simpa using h) fun i u v h1 h2 => l (i + 1) u v (by simpa using h1) (by simpa using h2)
    rw [List.sum_cons, List.sum_cons]
    omega
theorem mapS_inv {α β S : Type} {f : S → α → β × S} (P : S → Prop) (R : α → β → Prop) : ∀ {l : List α} {s : S}, P s → (∀ a s, a ∈ l → P s → R a (f s a).1 ∧ P (f s a).2) →
    P (mapS f l s).2 ∧ ∀ (i : Nat) a b, l[i]? = some a → (mapS f l s).1[i]? = some b → R a b
  | [], s, h, _ => ⟨h, fun i a b e => by simp at e⟩
  | x :: l, s, h, t => by
    obtain ⟨t1, t2⟩ := t x s List.mem_cons_self h
    obtain ⟨h1, h2⟩ := mapS_inv P R (l := l) t2 fun a s ha hs => t a s (List.mem_cons_of_mem _ ha) hs
    refine ⟨h1, fun i a b e1 e2 => ?_⟩
    cases i with
    | zero => cases e1; cases e2; exact t1
    | succ i => exact h2 i a b (by simpa using e1) (by unfold mapS at e2; simpa using e2)
theorem growsOf_ok {w : Int} {b : Bg} (hw : 0 ≤ w) : 1 ≤ growsOf w b ∧ growsOf w b ≤ w / 3 + 2 := by
  unfold growsOf
  have : 0 ≤ w / 3 := by omega
  split
  · omega
  · split <;> omega
theorem poll_step_ok {r : Ru} {n : Nat} {m w : Int} {i : Nat} {s : PollS} (hn : 2 ≤ n ∧ n ≤ 6) (hw : 1 ≤ w ∧ w ≤ 50000 ∧ (m ≤ 6 ∨ w ≤ 40000)) (hm : 1 ≤ m ∧ m ≤ 8) (hi : (i : Int) < m) (I : PollInv r n w i s) : PollInv r n w (i + 1) (pollStep r w s i) ∧ isVotesI s.votes := by
  have hg := growsOf_ok (w := w) (b := s.bag) (by omega)
  obtain ⟨b1, _, _⟩ := takeM_ok I.bag (n := 3) (by decide)
  have hB : w + i * (w / 3 + 2) ≤ 133345 := by
    rcases hw.2.2 with h | h
    · have : (i : Int) * (w / 3 + 2) ≤ 5 * (w / 3 + 2) := Int.mul_le_mul_of_nonneg_right (by omega) (by omega)
      omega
    · have : (i : Int) * (w / 3 + 2) ≤ 7 * (w / 3 + 2) := Int.mul_le_mul_of_nonneg_right (by omega) (by omega)
      omega
  have iv : isVotesI s.votes := by
    obtain ⟨s1, s2⟩ := sum_bounds (B := 133345) (l := s.votes) fun v hv => ⟨I.pos v hv, by have := I.top v hv; omega⟩
    refine ⟨by rw [I.len]; omega, by rw [I.len]; omega, fun v hv => ⟨I.pos v hv, by have := I.top v hv; omega⟩, I.low, ?_⟩
    rw [I.len] at s2
    omega
  obtain ⟨m1, m2⟩ := mapS_inv (f := growOne (growsOf w s.bag)) Bg.ok (fun v v' => v ≤ v' ∧ v' ≤ v + (w / 3 + 2)) (l := s.votes) b1 fun v b _ hb => by
    obtain ⟨o1, o2, o3⟩ := takeM_ok hb (n := growsOf w s.bag + 1) (by omega)
    obtain ⟨p1, p2, p3⟩ := takeM_ok o1 (n := 2) (by decide)
    refine ⟨?_, p1⟩
    unfold growOne
    have q : (takeM (takeM b (growsOf w s.bag + 1)).2 2).1 = 0 ∨ (takeM (takeM b (growsOf w s.bag + 1)).2 2).1 = 1 := by omega
    rcases q with q | q <;> (rw [q]; dsimp only; omega)
  have ln : (mapS (growOne (growsOf w s.bag)) s.votes (takeM s.bag 3).2).1.length = n := by rw [mapS_length, I.len]
  have at_ : ∀ v' ∈ (mapS (growOne (growsOf w s.bag)) s.votes (takeM s.bag 3).2).1, ∃ v ∈ s.votes, v ≤ v' ∧ v' ≤ v + (w / 3 + 2) := fun v' hv => by
    obtain ⟨j, hj, e⟩ := List.getElem_of_mem hv
    have hj' : j < s.votes.length := by rw [I.len]; rw [ln] at hj; exact hj
    exact ⟨s.votes[j], List.getElem_mem hj', m2 j _ _ (List.getElem?_eq_getElem hj') (by rw [List.getElem?_eq_getElem hj, e])⟩
  have lall : leAll s.votes (mapS (growOne (growsOf w s.bag)) s.votes (takeM s.bag 3).2).1 := fun j x y h1 h2 => (m2 j x y h1 h2).1
  refine ⟨⟨ln, fun v' hv => ?_, ?_, fun v' hv => ?_, m1, by show (s.rows ++ [s.votes]).length = i + 1; rw [List.length_append, I.cnt]; rfl, fun v hv => ?_, ?_, ?_, fun v hv y hy => ?_⟩, iv⟩
  · obtain ⟨v, h1, h2, _⟩ := at_ v' hv
    have := I.pos v h1
    omega
  · have := sum_le_leAll (by rw [I.len, ln]) lall
    have := I.low
    show 1 ≤ (mapS (growOne (growsOf w s.bag)) s.votes (takeM s.bag 3).2).1.sum
    omega
  · obtain ⟨v, h1, _, h2⟩ := at_ v' hv
    have := I.top v h1
    have e : ((i + 1 : Nat) : Int) * (w / 3 + 2) = i * (w / 3 + 2) + (w / 3 + 2) := by
      rw [Int.natCast_add, Int.add_mul]; simp
    omega
  · rcases List.mem_append.mp hv with h | h
    · exact I.rows v h
    · rw [List.mem_singleton] at h
      subst h
      exact ⟨I.len, iv⟩
  · show s.shots ++ [(s.votes.sum, numsM r s.votes)] = (s.rows ++ [s.votes]).map _
    rw [List.map_append, I.shots]
    rfl
  · show ((s.rows ++ [s.votes]) ++ [(mapS (growOne (growsOf w s.bag)) s.votes (takeM s.bag 3).2).1]).Pairwise leAll
    rw [List.pairwise_append]
    refine ⟨I.up, List.pairwise_singleton _ _, fun x hx y hy => ?_⟩
    rw [List.mem_singleton] at hy
    subst hy
    rcases List.mem_append.mp hx with h | h
    · intro j u v e1 e2
      have hj : j < s.votes.length := by
        have := (List.getElem?_eq_some_iff.mp e2).1
        rw [ln] at this
        rw [I.len]; exact this
      have h1 := (List.pairwise_append.mp I.up).2.2 x h s.votes (by simp) j u _ e1 (List.getElem?_eq_getElem hj)
      have h2 := lall j _ v (List.getElem?_eq_getElem hj) e2
      omega
    · rw [List.mem_singleton] at h
      subst h
      exact lall
  · have e : ((i + 1 : Nat) : Int) * (w / 3 + 2) = i * (w / 3 + 2) + (w / 3 + 2) := by
      rw [Int.natCast_add, Int.add_mul]; simp
    rcases List.mem_append.mp hv with h | h
    · have := I.rtop v h y hy
      omega
    · rw [List.mem_singleton] at h
      subst h
      have := I.top y hy
      omega
theorem poll_start_ok {r : Ru} {n : Nat} {m w : Int} {b : Bg} (hb : b.ok) (hn : 2 ≤ n ∧ n ≤ 6) (hm : 1 ≤ m ∧ m ≤ 8) (hw : 1 ≤ w ∧ w ≤ 50000 ∧ (m ≤ 6 ∨ w ≤ 40000)) :
    (drawsM n (w + 1) b).2.ok ∧ (takeM (drawsM n (w + 1) b).2 w).2.ok ∧ (pollBag n w b).ok ∧ PollInv r n w 0 ⟨pollVotes n w b, [], [], (takeM (pollBag n w b) m).2⟩ ∧ 1 ≤ pollTurns n m w b ∧ pollTurns n m w b ≤ m := by
  obtain ⟨d1, d2⟩ := mapS_inv (f := fun b (_ : Nat) => takeM b (w + 1)) Bg.ok (fun _ v => 0 ≤ v ∧ v ≤ w) (l := List.range n) hb fun _ b _ hb => by
    obtain ⟨o1, o2, o3⟩ := takeM_ok hb (n := w + 1) (by omega)
    exact ⟨⟨o2, by omega⟩, o1⟩
  have dl : (drawsM n (w + 1) b).1.length = n := by unfold drawsM; rw [mapS_length, List.length_range]
  have dv : ∀ v ∈ (drawsM n (w + 1) b).1, 0 ≤ v ∧ v ≤ w := fun v hv => by
    obtain ⟨j, hj, e⟩ := List.getElem_of_mem hv
    have hj' : j < n := by rw [dl] at hj; exact hj
    exact d2 j j v (List.getElem?_range hj') (by rw [← e]; exact List.getElem?_eq_getElem hj)
  have d1 : (drawsM n (w + 1) b).2.ok := d1
  obtain ⟨o1, o2, o3⟩ := takeM_ok d1 (n := w) (by omega)
  obtain ⟨p1, p2, p3⟩ := takeM_ok o1 (n := n) (by omega)
  obtain ⟨q1, q2, q3⟩ := takeM_ok (b := pollBag n w b) p1 (n := m) (by omega)
  refine ⟨d1, o1, p1, ⟨?_, ?_, ?_, ?_, q1, rfl, (fun v hv => by simp at hv), rfl, List.pairwise_singleton _ _, (fun v hv => by simp at hv)⟩, by unfold pollTurns; omega, by unfold pollTurns; omega⟩
  · show (pollVotes n w b).length = n
    unfold pollVotes
    rw [List.length_set, dl]
  · intro v hv
    unfold pollVotes at hv
    rcases List.mem_or_eq_of_mem_set hv with h | h
    · exact (dv v h).1
    · omega
  · show 1 ≤ (pollVotes n w b).sum
    have hmem : 1 + (takeM (drawsM n (w + 1) b).2 w).1 ∈ pollVotes n w b := by
      unfold pollVotes
      have : (takeM (takeM (drawsM n (w + 1) b).2 w).2 n).1.toNat < ((drawsM n (w + 1) b).1).length := by rw [dl]; omega
      exact List.mem_iff_getElem.mpr ⟨_, by rw [List.length_set]; exact this, List.getElem_set_self _⟩
    have key : ∀ (l : List Int) (x : Int), (∀ v ∈ l, 0 ≤ v) → x ∈ l → x ≤ l.sum := fun l => by
      induction l with
      | nil => intro x _ h; cases h
      | cons y l ih =>
        intro x h1 h2
        rw [List.sum_cons]
        have s0 : 0 ≤ l.sum := by
          clear ih h2
          induction l with
          | nil => simp
          | cons z l ih2 =>
            rw [List.sum_cons]
            have := h1 z (by simp)
            have := ih2 fun v hv => h1 v (by
              rcases List.mem_cons.mp hv with e | e
              · simp [e]
              · simp [e])
            omega
        rcases List.mem_cons.mp h2 with e | e
        · omega
        · have := ih x (fun v hv => h1 v (List.mem_cons_of_mem _ hv)) e
          have := h1 y List.mem_cons_self
          omega
    have := key (pollVotes n w b) _ (fun v hv => by
      unfold pollVotes at hv
      rcases List.mem_or_eq_of_mem_set hv with h | h
      · exact (dv v h).1
      · omega) hmem
    omega
  · intro v hv
    show v ≤ w + ((0 : Nat) : Int) * (w / 3 + 2)
    unfold pollVotes at hv
    rcases List.mem_or_eq_of_mem_set hv with h | h
    · have := (dv v h).2; simp; omega
    · simp; omega
theorem foldl_inv {α S : Type} (step : S → α → S) (P : Nat → S → Prop) : ∀ (l : List α) (j : Nat) (s : S), P j s → (∀ i a s, j ≤ i → i < j + l.length → P i s → P (i + 1) (step s a)) → P (j + l.length) (l.foldl step s)
  | [], _, _, h, _ => h
  | a :: l, j, s, h, t => by
    have := foldl_inv step P l (j + 1) (step s a) (t j a s (Nat.le_refl _) (by simp) h) fun i b u h1 h2 => t i b u (by omega) (by simp at h2 ⊢; omega)
    rw [List.length_cons, show j + (l.length + 1) = j + 1 + l.length by omega]
    exact this
theorem pollM_ok {r : Ru} {n : Nat} {m w : Int} {b : Bg} (hb : b.ok) (hn : 2 ≤ n ∧ n ≤ 6) (hm : 1 ≤ m ∧ m ≤ 8) (hw : 1 ≤ w ∧ w ≤ 50000 ∧ (m ≤ 6 ∨ w ≤ 40000)) : PollInv r n w (pollTurns n m w b).toNat (pollM r n m w b) := by
  obtain ⟨_, _, _, I, t1, t2⟩ := poll_start_ok (r := r) hb hn hm hw
  have := foldl_inv (pollStep r w) (PollInv r n w) (List.range (pollTurns n m w b).toNat) 0 _ I fun i a s _ h2 Is => (poll_step_ok hn hw hm (by rw [List.length_range] at h2; omega) Is).1
  rw [List.length_range, Nat.zero_add] at this
  exact this
def ePoll (s : PollS) : PD := .tuple [.list (s.rows.map eInts), .tuple (s.shots.map eShI)]
def M_law_poll (c : Ct) (ds : List PD) (c' : Ct) (o : PO) : Prop := ∃ (r : Ru) (n : Nat) (m w : Int) (b : Bg), b.ok ∧ r.ok ∧ (2 ≤ n ∧ n ≤ 6) ∧ (1 ≤ m ∧ m ≤ 8) ∧ (1 ≤ w ∧ w ≤ 50000 ∧ (m ≤ 6 ∨ w ≤ 40000)) ∧ c = eBg b ∧ ds = [eRu r, .int n, .int m, .int w] ∧ c' = eBg (pollM r n m w b).bag ∧ o = .ok (.va (ePoll (pollM r n m w b)))
theorem m_law_poll {r : Ru} {n : Nat} {m w : Int} {b : Bg} (hb : b.ok) (hr : r.ok) (hn : 2 ≤ n ∧ n ≤ 6) (hm : 1 ≤ m ∧ m ≤ 8) (hw : 1 ≤ w ∧ w ≤ 50000 ∧ (m ≤ 6 ∨ w ≤ 40000)) : M_law_poll (eBg b) [eRu r, .int n, .int m, .int w] (eBg (pollM r n m w b).bag) (.ok (.va (ePoll (pollM r n m w b)))) := ⟨r, n, m, w, b, hb, hr, hn, hm, hw, rfl, rfl, rfl, rfl⟩
end Pj

set_option Elab.async false
set_option linter.all false
set_option maxRecDepth 100000
namespace Pj
open PySem PySem.Spec PyProof.Rows L2
/-! ### draws, as bare existence -/
theorem take_ex {b : Bg} (n : Int) (h : b.ok) (h1 : 0 < n := by decide) (h2 : n < 1073741824 := by decide) : ∃ (t : Int) (b' : Bg), b'.ok ∧ 0 ≤ t ∧ t < n ∧ M_law_take (eBg b) [.int n] (eBg b') (.ok (.va (.int t))) := by
  obtain ⟨a, c, d⟩ := takeM_ok h h1
  exact ⟨_, _, a, c, d, m_law_take h h1 h2⟩
theorem of_ex {b : Bg} (x : PD) {es : List PD} (h : b.ok) (h1 : itemsOf x = some es := by rfl) (h2 : 0 < es.length := by exact Nat.le_of_ble_eq_true rfl) (h3 : es.length < 1073741824 := by exact Nat.le_of_ble_eq_true rfl) : ∃ (i : Nat) (d : PD) (b' : Bg), b'.ok ∧ es[i]? = some d ∧ M_law_of (eBg b) [x] (eBg b') (.ok (.va d)) := by
  obtain ⟨a, c, d⟩ := takeM_ok h (n := es.length) (by omega)
  have lt : (takeM b es.length).1.toNat < es.length := by omega
  refine ⟨(takeM b es.length).1.toNat, pickM es (takeM b es.length).1, _, a, ?_, m_law_of h h1 h2 h3⟩
  unfold pickM
  rw [List.getD_eq_getElem?_getD, List.getElem?_eq_getElem lt]
  rfl
theorem half_ex {b : Bg} (h : b.ok) : ∃ (u : Bool) (b' : Bg), b'.ok ∧ M_law_of (eBg b) [.list [.str "up", .str "down"]] (eBg b') (.ok (.va (.str (half u)))) := by
  obtain ⟨i, d, b', h1, h2, h3⟩ := of_ex (.list [.str "up", .str "down"]) h
  match i, h2 with
  | 0, h2 => cases h2; exact ⟨true, b', h1, h3⟩
  | 1, h2 => cases h2; exact ⟨false, b', h1, h3⟩
theorem rule_of {t : Int} {u : Bool} {n : Int} (h : 0 ≤ t) (h1 : t < n) (h2 : n ≤ 3) : ∃ r : Ru, r.ok ∧ PyData.tuple [.int t, .str (half u)] = eRu r := by
  refine ⟨⟨t.toNat, u⟩, by show t.toNat ≤ 2; omega, ?_⟩
  unfold eRu
  rw [show ((t.toNat : Nat) : Int) = t by omega]
theorem polls_first (r : Ru) (w : Int) : ∀ (l : List Nat) (s : PollS), s.rows ≠ [] → (l.foldl (pollStep r w) s).rows.head? = s.rows.head?
  | [], s, _ => rfl
  | a :: l, s, h => by
    rw [List.foldl_cons, polls_first r w l _ (by show s.rows ++ [s.votes] ≠ []; simp)]
    show (s.rows ++ [s.votes]).head? = _
    cases e : s.rows with
    | nil => exact absurd e h
    | cons x t => rfl
theorem pollM_first {r : Ru} {n : Nat} {m w : Int} {b : Bg} (h : 1 ≤ pollTurns n m w b) : (pollM r n m w b).rows.head? = some (pollVotes n w b) := by
  unfold pollM
  obtain ⟨k, hk⟩ : ∃ k, (pollTurns n m w b).toNat = k + 1 := ⟨(pollTurns n m w b).toNat - 1, by omega⟩
  rw [hk, List.range_succ_eq_map, List.foldl_cons, polls_first r w _ _ (by show [] ++ [_] ≠ []; simp)]
  rfl
/-- the votes of a history never fall; its shots show its votes -/
structure PollRes (r : Ru) (n : Nat) (m w : Int) (vs : List (List Int)) (ss : List (Int × List Int)) : Prop where
  cnt : 1 ≤ vs.length ∧ vs.length ≤ m
  rows : ∀ v ∈ vs, v.length = n ∧ isVotesI v
  first : ∀ v, vs.head? = some v → v.sum ≤ n * w
  shots : ss = vs.map fun v => (v.sum, numsM r v)
  up : vs.Pairwise leAll
  top : ∀ v ∈ vs, v.sum ≤ n * (w + (m - 1) * (w / 3 + 2))
theorem poll_ex {r : Ru} {n : Nat} (m w : Int) {b : Bg} (hb : b.ok) (hr : r.ok) (hn : 2 ≤ n ∧ n ≤ 6) (hm : 1 ≤ m ∧ m ≤ 8 := by decide) (hw : 1 ≤ w ∧ w ≤ 50000 ∧ (m ≤ 6 ∨ w ≤ 40000) := by decide) :
    ∃ rows shots b', b'.ok ∧ PollRes r n m w rows shots ∧ M_law_poll (eBg b) [eRu r, .int n, .int m, .int w] (eBg b') (.ok (.va (.tuple [.list (rows.map eInts), .tuple (shots.map eShI)]))) := by
  obtain ⟨_, _, _, I0, t1, t2⟩ := poll_start_ok (r := r) hb hn hm hw
  have I := pollM_ok (r := r) hb hn hm hw
  refine ⟨_, _, _, I.bag, ⟨⟨by rw [I.cnt]; omega, by rw [I.cnt]; omega⟩, I.rows, fun v hv => ?_, I.shots, (List.pairwise_append.mp I.up).1, fun v hv => ?_⟩, m_law_poll hb hr hn hm hw⟩
  case refine_2 =>
    have h1 := I.rows v hv
    obtain ⟨_, s2⟩ := sum_bounds (B := w + (m - 1) * (w / 3 + 2)) (l := v) fun y hy => ⟨(h1.2.2.2.1 y hy).1, by
      have h2 := I.rtop v hv y hy
      have h3 : ((pollTurns n m w b).toNat : Int) * (w / 3 + 2) ≤ m * (w / 3 + 2) := Int.mul_le_mul_of_nonneg_right (by omega) (by omega)
      have h4 : m * (w / 3 + 2) = (m - 1) * (w / 3 + 2) + (w / 3 + 2) := by rw [Int.sub_mul]; omega
      omega⟩
    rw [h1.1] at s2
    exact s2
  rw [pollM_first t1] at hv
  cases hv
  obtain ⟨_, s2⟩ := sum_bounds (B := w) (l := pollVotes n w b) fun v hv => ⟨I0.pos v hv, by have := I0.top v hv; simpa using this⟩
  have : (pollVotes n w b).length = n := I0.len
  rw [this] at s2
  exact s2
theorem sum_ge_mem : ∀ {l : List Int} {x : Int}, (∀ v ∈ l, 0 ≤ v) → x ∈ l → x ≤ l.sum
  | y :: l, x, h1, h2 => by
    rw [List.sum_cons]
    have s0 := (sum_bounds0 l fun v hv => h1 v (List.mem_cons_of_mem _ hv))
    rcases List.mem_cons.mp h2 with e | e
    · omega
    · have := sum_ge_mem (fun v hv => h1 v (List.mem_cons_of_mem _ hv)) e
      have := h1 y List.mem_cons_self
      omega
where sum_bounds0 : ∀ l : List Int, (∀ v ∈ l, 0 ≤ v) → 0 ≤ l.sum
  | [], _ => by simp
  | z :: l, h => by
    rw [List.sum_cons]
    have := h z List.mem_cons_self
    have := sum_bounds0 l fun v hv => h v (List.mem_cons_of_mem _ hv)
    omega
theorem own_in {ns : List Int} (h : isVotesI ns) {i : Nat} {own : Int} (e : ns[i]? = some own) : 0 ≤ own ∧ own ≤ ns.sum ∧ i < ns.length := by
  have hi := (List.getElem?_eq_some_iff.mp e).1
  have hm : own ∈ ns := List.mem_of_getElem? e
  exact ⟨(h.2.2.1 own hm).1, sum_ge_mem (fun v hv => (h.2.2.1 v hv).1) hm, hi⟩
theorem own_ex {ns : List Int} {t : Int} (h0 : 0 ≤ t) (h1 : t < ns.length) : ∃ (i : Nat) (own : Int), t = i ∧ i < ns.length ∧ ns[i]? = some own := by
  have : t.toNat < ns.length := by omega
  exact ⟨t.toNat, ns[t.toNat], by omega, this, List.getElem?_eq_getElem this⟩
theorem at_ints {ns : List Int} {i : Nat} {own : Int} (e : ns[i]? = some own) : atI (ns.map PyData.int) (i : Int) = some (.int own) := atI_nat (by rw [List.getElem?_map, e]; rfl)
theorem sh_eOI (x : Option Int) : SeqAt.shaped (eOI x) = true := by cases x <;> rfl
theorem eqv_eOI (x y : Option Int) : PyData.eqv (eOI x) (eOI y) = decide (x = y) := by
  cases x with
  | none => cases y <;> rfl
  | some a =>
    cases y with
    | none => rfl
    | some b =>
      show (a == b) = _
      by_cases h : a = b
      · subst h; simp
      · simp [h]
theorem eqv_same (x : Option Int) : PyData.eqv (eOI x) (eOI x) = true := by rw [eqv_eOI]; exact decide_eq_true rfl
theorem at_rows {rows : List (List Int)} {i : Nat} {v : List Int} (e : rows[i]? = some v) : atI (rows.map eInts) (i : Int) = some (eInts v) := atI_nat (by rw [List.getElem?_map, e]; rfl)
theorem row0 {r : Ru} {n : Nat} {m w : Int} {rows : List (List Int)} {shots : List (Int × List Int)} (R : PollRes r n m w rows shots) : ∃ v, atI (rows.map eInts) 0 = some (eInts v) ∧ v ∈ rows ∧ isVotesI v ∧ v.sum ≤ n * w := by
  have h := R.cnt.1
  match rows, R, h with
  | v :: l, R, _ => exact ⟨v, at_rows (i := 0) rfl, List.mem_cons_self, (R.rows v List.mem_cons_self).2, R.first v rfl⟩
def M_law (ds : List PD) (o : PO) : Prop := ∃ ns : List Int, ns.length ≤ 63 ∧ ds = [.list (ns.map .int)] ∧ o = .ok (.va (.bool true))
theorem dpAll_ints {K : PySem.W.Frag} {F : Hp} : ∀ ns : List Int, DpAll K F (ns.map V.int) (ns.map PyData.int)
  | [] => .nil
  | n :: ns => .cons (.int n) (dpAll_ints ns)
theorem law_sp {K : PySem.W.Frag} {mg : Str → Option Value} {H : Hp} {a : Addr} {ns : List Int} (hl : ns.length ≤ 63) (hS : SqL K H a (ns.map V.int)) : spP K mg M_law [.ref a] H (fun v _ => v = .bl true) fun _ _ _ => False := by
  refine ⟨H, _, _, ⟨ns, hl, rfl, rfl⟩, Same.refl _, .cons (.lst hS (dpAll_ints ns)) .nil, fun F' H' v x h => ?_⟩
  cases h
  rfl
end Pj

set_option Elab.async false
set_option linter.all false
set_option maxRecDepth 100000
/-! Pi1: zip of two or three lists and tuples in any mixture, enumerate of a tuple. -/
namespace Pj
open PySem PySem.Spec PyProof.Rows L2
/-- l is a tuple (b) or a list -/
def SqO (b : Bool) (h : Heap) (l : Addr) (xs : Array Value) : Prop := (b = true → h.IsTuple l xs) ∧ (b = false → h.IsList l xs)
def SqI (b : Bool) (h : Heap) (it l : Addr) (k : Nat) : Prop := (b = true → h.IsTupleIter it l k) ∧ (b = false → h.IsListIter it l k)
theorem SqO.ext {b : Bool} {h h' : Heap} {c l : Addr} {xs : Array Value} (q : SqO b h l xs) (e : Heap.ExtBut c h h') (n : l ≠ c) : SqO b h' l xs := ⟨fun x => (q.1 x).extBut e n, fun x => (q.2 x).extBut e n⟩
theorem SqI.ext {b : Bool} {h h' : Heap} {c it l : Addr} {k : Nat} (q : SqI b h it l k) (e : Heap.ExtBut c h h') (n : it ≠ c) : SqI b h' it l k := ⟨fun x => (q.1 x).extBut e n, fun x => (q.2 x).extBut e n⟩
theorem SqI.at {b : Bool} {h h' : Heap} {it l : Addr} {k : Nat} (q : SqI b h it l k) (e : ∀ o, h.get? it = some o → h'.get? it = some o) : SqI b h' it l k := ⟨fun x => (q.1 x).at e, fun x => (q.2 x).at e⟩
theorem SqI.obj {b : Bool} {h : Heap} {it l : Addr} {k : Nat} (q : SqI b h it l k) : ∃ o, h.get? it = some o ∧ ∀ v, o.data ≠ .cell v := by
  cases b with
  | true =>
    obtain ⟨o, e, _, d⟩ := q.1 rfl
    exact ⟨o, e, fun v z => by rw [d] at z; cases z⟩
  | false =>
    obtain ⟨o, e, _, d⟩ := q.2 rfl
    exact ⟨o, e, fun v z => by rw [d] at z; cases z⟩
theorem SqI.lt {b : Bool} {h : Heap} {it l : Addr} {k : Nat} (q : SqI b h it l k) : it < h.objs.size := by
  obtain ⟨o, e, _⟩ := q.obj
  exact Heap.lt_size e
section
variable {prog : Program} {w : World} {A : Around} {E : Value → Shared → Prop} {s : Shared} {b b1 b2 b3 : Bool}
theorem sq_item {it l : Addr} {i : Nat} {xs : Array Value} {x : Value} {Q : Value → Shared → Prop} (hit : SqI b s.heap it l i) (hl : SqO b s.heap l xs) (hx : xs[i]? = some x)
    (hQ : ∀ h', SqI b h' it l (i + 1) → Heap.SameBut it s.heap h' → Q x { s with heap := h' }) : wpAny (model prog w) A (Builtin.SmallTypes.nextOf (.ref it)) Q E s := by
  cases b with
  | true => exact RZ.nextOf_tuple_item (hit.1 rfl) (hl.1 rfl) hx fun h' a c => hQ h' ⟨fun _ => a, fun z => nomatch z⟩ c
  | false => exact wpAny_nextOf_list_item (hit.2 rfl) (hl.2 rfl) hx fun h' a c => hQ h' ⟨fun z => (nomatch z), fun _ => a⟩ c
theorem sq_end {it l : Addr} {i : Nat} {xs : Array Value} {Q : Value → Shared → Prop} (hh : A.handled = none) (hit : SqI b s.heap it l i) (hl : SqO b s.heap l xs) (hx : xs[i]? = none)
    (hE : ∀ h' e, Heap.ExtBut it s.heap h' → (∃ o, h'.get? e = some o ∧ o.cls = .type "StopIteration") → E (.ref e) { s with heap := h' }) : wpAny (model prog w) A (Builtin.SmallTypes.nextOf (.ref it)) Q E s := by
  cases b with
  | true => exact RZ.nextOf_tuple_end hh (hit.1 rfl) (hl.1 rfl) hx hE
  | false => exact wpAny_nextOf_list_end hh (hit.2 rfl) (hl.2 rfl) hx hE
def itTy (b : Bool) : String := if b then "tuple_iterator" else "list_iterator"
theorem sq_iter {l : Addr} {xs : Array Value} {Q : Value → Shared → Prop} (hl : SqO b s.heap l xs)
    (hQ : Q (.ref s.heap.objs.size) { s with heap := s.heap.push { cls := .type (itTy b), data := .fields #[.ref l, .int 0 0] } }) : wpAny (model prog w) A (pyIter (.ref l)) Q E s := by
  cases b with
  | true => exact wpAny_pyIter_tuple (hl.1 rfl) hQ
  | false => exact wpAny_pyIter_list (hl.2 rfl) hQ
theorem sqI_new {h : Heap} {it l : Addr} {o : Obj} (e : h.get? it = some o) (c : o.cls = .type (itTy b)) (d : o.data = .fields #[.ref l, .int 0 0]) : SqI b h it l 0 := by
  cases b with
  | true => exact ⟨fun _ => ⟨o, e, c, d⟩, fun z => nomatch z⟩
  | false => exact ⟨fun z => (nomatch z), fun _ => ⟨o, e, c, d⟩⟩
theorem SqO.push {h : Heap} {l : Addr} {xs : Array Value} (q : SqO b h l xs) (o : Obj) : SqO b (h.push o) l xs := ⟨fun x => (q.1 x).push o, fun x => (q.2 x).push o⟩
theorem SqO.lt {h : Heap} {l : Addr} {xs : Array Value} (q : SqO b h l xs) : l < h.objs.size := by
  cases b with
  | true => obtain ⟨o, e, _⟩ := q.1 rfl; exact Heap.lt_size e
  | false => obtain ⟨o, e, _⟩ := q.2 rfl; exact Heap.lt_size e
end
end Pj

set_option Elab.async false
set_option linter.all false
set_option maxRecDepth 100000
set_option maxHeartbeats 1000000
namespace Pj
open PySem PySem.Spec PyProof.Rows L2
section
variable {prog : Program} {w : World} {A : Around} {E : Value → Shared → Prop} {s : Shared} {b1 b2 b3 : Bool}
theorem zz_item {z TI TO i1 i2 l1 l2 : Addr} {k1 k2 : Nat} {xs ys : Array Value} {x y a b : Value} {Q : Value → Shared → Prop} (D : ZipApart z TI TO i1 i2 l1 l2)
    (hz : IsZip s.heap z TI TO .none) (hTI : IsPair s.heap TI (.ref i1) (.ref i2)) (hTO : IsPair s.heap TO a b)
    (h1 : SqI b1 s.heap i1 l1 k1) (h2 : SqI b2 s.heap i2 l2 k2) (hl1 : SqO b1 s.heap l1 xs) (hl2 : SqO b2 s.heap l2 ys) (hx : xs[k1]? = some x) (hy : ys[k2]? = some y)
    (hQ : ∀ h', IsZip h' z TI TO (rawInt s.heap.objs.size) → IsPair h' TO x y → SqI b1 h' i1 l1 (k1 + 1) → SqI b2 h' i2 l2 (k2 + 1) → IsPair h' s.heap.objs.size x y → h'.objs.size = s.heap.objs.size + 1 →
      (∀ c o, c ≠ z → c ≠ TO → c ≠ i1 → c ≠ i2 → s.heap.get? c = some o → h'.get? c = some o) → Q (.ref s.heap.objs.size) { s with heap := h' }) :
    wpAny (model prog w) A (Builtin.«zip.__next__» ⟨[.ref z], []⟩) (fun fin s' => ∃ v, fin = .done (.ret v) ∧ Q v s') E s := by
  show wpAny _ _ (field (.ref z) 2 >>= _) _ _ _
  refine wpAny_bind (wpAny_field hz rfl (x := .bool false) rfl ?_)
  show wpAny _ _ (field (.ref z) 3 >>= _) _ _ _
  refine wpAny_bind (wpAny_field hz rfl (x := .ref TI) rfl ?_)
  refine wpAny_bind (wpAny_seqItems hTI rfl ?_)
  show wpAny _ _ (Builtin.SmallTypes.ownedTupleIsFree (.ref z) >>= _) _ _ _
  refine wpAny_bind ?_
  unfold Builtin.SmallTypes.ownedTupleIsFree
  refine wpAny_bind (wpAny_field hz rfl (x := .none) rfl (wpAny_pure ?_))
  simp only [if_true]
  refine wpAny_bind (wpAny_rule ?_)
  refine wpAny_bind (wpAny_field hz rfl (x := .ref TO) rfl ?_)
  refine wpAny_bind (wpAny_setField_rec hz (by simp) fun g1 zg1 s1 => ?_)
  replace zg1 : IsZip g1 z TI TO .ellipsis := zg1
  refine wpAny_bind ?_
  simp only [List.zipIdx_cons, List.zipIdx_nil, List.forIn_cons, List.forIn_nil]
  refine wpAny_bind (wpAny_bind (wpAny_onRaise ?_))
  show wpAny _ _ (Builtin.SmallTypes.nextOf (.ref i1) >>= _) _ _ _
  refine wpAny_bind (sq_item (h1.ext s1.extBut D.i1z) (hl1.ext s1.extBut D.l1z) hx fun g2 u2 s2 => wpAny_pure ?_)
  have p2 : IsPair g2 TO a b := s2.extBut _ _ D.TOi1 (s1.extBut _ _ D.TOz hTO)
  refine wpAny_bind (wpAny_seqItems p2 rfl ?_)
  refine wpAny_bind (wpAny_updateSeq_pair p2 fun g3 p3 s3 => ?_)
  replace p3 : IsPair g3 TO x b := p3
  refine wpAny_bind (wpAny_letGo (wpAny_pure ?_))
  refine wpAny_bind (wpAny_bind (wpAny_onRaise ?_))
  show wpAny _ _ (Builtin.SmallTypes.nextOf (.ref i2) >>= _) _ _ _
  refine wpAny_bind (sq_item (((h2.ext s1.extBut D.i2z).ext s2.extBut D.i12.symm).ext s3.extBut D.TOi2.symm) (((hl2.ext s1.extBut D.l2z).ext s2.extBut D.l2i1).ext s3.extBut D.l2TO) hy fun g4 u4 s4 => wpAny_pure ?_)
  have p4 : IsPair g4 TO x b := s4.extBut _ _ D.TOi2 p3
  refine wpAny_bind (wpAny_seqItems p4 rfl ?_)
  refine wpAny_bind (wpAny_updateSeq_pair p4 fun g5 p5 s5 => ?_)
  replace p5 : IsPair g5 TO x y := p5
  refine wpAny_bind (wpAny_letGo (wpAny_pure (wpAny_pure ?_)))
  refine wpAny_bind (wpAny_seqItems p5 rfl ?_)
  refine wpAny_bind (wpAny_newTuple ?_)
  have sz : g5.objs.size = s.heap.objs.size := by rw [s5.1, s4.1, s3.1, s2.1, s1.1]
  have zg5 : IsZip g5 z TI TO .ellipsis := s5.extBut _ _ D.TOz.symm (s4.extBut _ _ D.i2z.symm (s3.extBut _ _ D.TOz.symm (s2.extBut _ _ D.i1z.symm zg1)))
  have keep : ∀ c o, c ≠ z → c ≠ TO → c ≠ i1 → c ≠ i2 → s.heap.get? c = some o → g5.get? c = some o := fun c o n1 n2 n3 n4 e =>
    s5.extBut _ _ n2 (s4.extBut _ _ n4 (s3.extBut _ _ n2 (s2.extBut _ _ n3 (s1.extBut _ _ n1 e))))
  have v1 : SqI b1 g5 i1 l1 (k1 + 1) := ((u2.ext s3.extBut D.TOi1.symm).ext s4.extBut D.i12).ext s5.extBut D.TOi1.symm
  have v2 : SqI b2 g5 i2 l2 (k2 + 1) := u4.ext s5.extBut D.TOi2.symm
  have zlt : z < g5.objs.size := Heap.lt_size zg5
  show wpAny _ _ (Builtin.SmallTypes.ownedTupleHandOut (.ref z) (.ref g5.objs.size) >>= _) _ _ _
  refine wpAny_bind ?_
  unfold Builtin.SmallTypes.ownedTupleHandOut
  have zg6 : IsZip (g5.push { cls := .type "tuple", data := .seq #[x, y] }) z TI TO .ellipsis := Heap.get?_push_of_some _ zg5
  refine wpAny_bind (wpAny_setField_rec zg6 (by simp) fun g7 zg7 s7 => ?_)
  replace zg7 : IsZip g7 z TI TO (rawInt g5.objs.size) := zg7
  refine wpAny_setField_rec zg7 (by simp) fun g8 zg8 s8 => ?_
  replace zg8 : IsZip g8 z TI TO (rawInt g5.objs.size) := zg8
  have up : ∀ c o, c ≠ z → g5.get? c = some o → g8.get? c = some o := fun c o n e => s8.extBut _ _ n (s7.extBut _ _ n (Heap.get?_push_of_some _ e))
  have pT : IsPair g8 g5.objs.size x y := s8.extBut _ _ (Nat.ne_of_gt zlt) (s7.extBut _ _ (Nat.ne_of_gt zlt) (Heap.get?_push_size _ rfl))
  have sz8 : g8.objs.size = g5.objs.size + 1 := by rw [s8.1, s7.1, Heap.size_push]
  rw [sz] at zg8 pT sz8
  refine wpAny_pure ⟨_, rfl, ?_⟩
  show Q (.ref g5.objs.size) _
  rw [sz]
  exact hQ g8 zg8 (up _ _ D.TOz p5) (v1.at fun o e => up _ o D.i1z e) (v2.at fun o e => up _ o D.i2z e) pT sz8 fun c o n1 n2 n3 n4 e => up c o n1 (keep c o n1 n2 n3 n4 e)
theorem zz_end {z TI TO i1 i2 l1 l2 : Addr} {k1 k2 : Nat} {xs ys : Array Value} {a b : Value} {Q : Fin → Shared → Prop} (hh : A.handled = none) (D : ZipApart z TI TO i1 i2 l1 l2)
    (hz : IsZip s.heap z TI TO .none) (hTI : IsPair s.heap TI (.ref i1) (.ref i2)) (hTO : IsPair s.heap TO a b)
    (h1 : SqI b1 s.heap i1 l1 k1) (h2 : SqI b2 s.heap i2 l2 k2) (hl1 : SqO b1 s.heap l1 xs) (hl2 : SqO b2 s.heap l2 ys) (hend : xs[k1]? = none ∨ ys[k2]? = none)
    (hE : ∀ h' e, (∀ c o, c ≠ z → c ≠ TO → c ≠ i1 → c ≠ i2 → s.heap.get? c = some o → h'.get? c = some o) → (∃ o, h'.get? e = some o ∧ o.cls = .type "StopIteration") → E (.ref e) { s with heap := h' }) :
    wpAny (model prog w) A (Builtin.«zip.__next__» ⟨[.ref z], []⟩) Q E s := by
  show wpAny _ _ (field (.ref z) 2 >>= _) _ _ _
  refine wpAny_bind (wpAny_field hz rfl (x := .bool false) rfl ?_)
  show wpAny _ _ (field (.ref z) 3 >>= _) _ _ _
  refine wpAny_bind (wpAny_field hz rfl (x := .ref TI) rfl ?_)
  refine wpAny_bind (wpAny_seqItems hTI rfl ?_)
  show wpAny _ _ (Builtin.SmallTypes.ownedTupleIsFree (.ref z) >>= _) _ _ _
  refine wpAny_bind ?_
  unfold Builtin.SmallTypes.ownedTupleIsFree
  refine wpAny_bind (wpAny_field hz rfl (x := .none) rfl (wpAny_pure ?_))
  simp only [if_true]
  refine wpAny_bind (wpAny_rule ?_)
  refine wpAny_bind (wpAny_field hz rfl (x := .ref TO) rfl ?_)
  refine wpAny_bind (wpAny_setField_rec hz (by simp) fun g1 zg1 s1 => ?_)
  replace zg1 : IsZip g1 z TI TO .ellipsis := zg1
  refine wpAny_bind ?_
  simp only [List.zipIdx_cons, List.zipIdx_nil, List.forIn_cons, List.forIn_nil]
  refine wpAny_bind (wpAny_bind (wpAny_onRaise ?_))
  show wpAny _ _ (Builtin.SmallTypes.nextOf (.ref i1) >>= _) _ _ _
  cases hx : xs[k1]? with
  | none =>
    refine wpAny_bind (sq_end hh (h1.ext s1.extBut D.i1z) (hl1.ext s1.extBut D.l1z) hx fun g2 e s2 he => ?_)
    obtain ⟨oe, f1, f2⟩ := he
    have zg2 : IsZip g2 z TI TO .ellipsis := s2 _ _ D.i1z.symm zg1
    have ez : e ≠ z := fun q => by subst q; rw [zg2] at f1; cases f1; simp at f2
    refine wpAny_setField_rec zg2 (by simp) fun g3 _ s3 => hE g3 e (fun c o n1 _ n3 _ q => s3.extBut _ _ n1 (s2 _ _ n3 (s1.extBut _ _ n1 q))) ⟨oe, s3.extBut _ _ ez f1, f2⟩
  | some x =>
    have hy : ys[k2]? = none := by
      rcases hend with h | h
      · rw [hx] at h; cases h
      · exact h
    refine wpAny_bind (sq_item (h1.ext s1.extBut D.i1z) (hl1.ext s1.extBut D.l1z) hx fun g2 u2 s2 => wpAny_pure ?_)
    have p2 : IsPair g2 TO a b := s2.extBut _ _ D.TOi1 (s1.extBut _ _ D.TOz hTO)
    refine wpAny_bind (wpAny_seqItems p2 rfl ?_)
    refine wpAny_bind (wpAny_updateSeq_pair p2 fun g3 p3 s3 => ?_)
    refine wpAny_bind (wpAny_letGo (wpAny_pure ?_))
    refine wpAny_bind (wpAny_bind (wpAny_onRaise ?_))
    show wpAny _ _ (Builtin.SmallTypes.nextOf (.ref i2) >>= _) _ _ _
    refine wpAny_bind (sq_end hh (((h2.ext s1.extBut D.i2z).ext s2.extBut D.i12.symm).ext s3.extBut D.TOi2.symm) (((hl2.ext s1.extBut D.l2z).ext s2.extBut D.l2i1).ext s3.extBut D.l2TO) hy fun g4 e s4 he => ?_)
    obtain ⟨oe, f1, f2⟩ := he
    have zg4 : IsZip g4 z TI TO .ellipsis := s4 _ _ D.i2z.symm (s3.extBut _ _ D.TOz.symm (s2.extBut _ _ D.i1z.symm zg1))
    have ez : e ≠ z := fun q => by subst q; rw [zg4] at f1; cases f1; simp at f2
    refine wpAny_setField_rec zg4 (by simp) fun g5 _ s5 => hE g5 e (fun c o n1 n2 n3 n4 q => s5.extBut _ _ n1 (s4 _ _ n4 (s3.extBut _ _ n2 (s2.extBut _ _ n3 (s1.extBut _ _ n1 q))))) ⟨oe, s5.extBut _ _ ez f1, f2⟩
theorem pyNext_zz_item {z TI TO i1 i2 l1 l2 : Addr} {k1 k2 : Nat} {xs ys : Array Value} {x y a b : Value} {Q : Option Value → Shared → Prop} (D : ZipApart z TI TO i1 i2 l1 l2)
    (hz : IsZip s.heap z TI TO .none) (hTI : IsPair s.heap TI (.ref i1) (.ref i2)) (hTO : IsPair s.heap TO a b)
    (h1 : SqI b1 s.heap i1 l1 k1) (h2 : SqI b2 s.heap i2 l2 k2) (hl1 : SqO b1 s.heap l1 xs) (hl2 : SqO b2 s.heap l2 ys) (hx : xs[k1]? = some x) (hy : ys[k2]? = some y)
    (hQ : ∀ h', IsZip h' z TI TO (rawInt s.heap.objs.size) → IsPair h' TO x y → SqI b1 h' i1 l1 (k1 + 1) → SqI b2 h' i2 l2 (k2 + 1) → IsPair h' s.heap.objs.size x y → h'.objs.size = s.heap.objs.size + 1 →
      (∀ c o, c ≠ z → c ≠ TO → c ≠ i1 → c ≠ i2 → s.heap.get? c = some o → h'.get? c = some o) → Q (some (.ref s.heap.objs.size)) { s with heap := h' }) :
    wpAny (model prog w) A (pyNext (.ref z)) Q E s := by
  have hT : s.TypeIs (.ref z) "zip" := ⟨_, hz, rfl⟩
  unfold pyNext
  exact wpAny_bind (wpAny_attempt (wpAny_callSpecial?_slot (name := Str.ofString "__next__") hT F.slot_zip_next
    (wpAny_call_entry F.slot_zip_next hT F.entry_zip_next
      (zz_item D hz hTI hTO h1 h2 hl1 hl2 hx hy fun h' a1 a2 a3 a4 a5 a6 a7 => wpAny_pure (hQ h' a1 a2 a3 a4 a5 a6 a7)) (F.args_zip_next_1 _))))
theorem pyNext_zz_end {z TI TO i1 i2 l1 l2 : Addr} {k1 k2 : Nat} {xs ys : Array Value} {a b : Value} {Q : Option Value → Shared → Prop} (hh : A.handled = none) (D : ZipApart z TI TO i1 i2 l1 l2)
    (hz : IsZip s.heap z TI TO .none) (hTI : IsPair s.heap TI (.ref i1) (.ref i2)) (hTO : IsPair s.heap TO a b)
    (h1 : SqI b1 s.heap i1 l1 k1) (h2 : SqI b2 s.heap i2 l2 k2) (hl1 : SqO b1 s.heap l1 xs) (hl2 : SqO b2 s.heap l2 ys) (hend : xs[k1]? = none ∨ ys[k2]? = none)
    (hQ : ∀ h', (∀ c o, c ≠ z → c ≠ TO → c ≠ i1 → c ≠ i2 → s.heap.get? c = some o → h'.get? c = some o) → Q none { s with heap := h' }) : wpAny (model prog w) A (pyNext (.ref z)) Q E s := by
  have hT : s.TypeIs (.ref z) "zip" := ⟨_, hz, rfl⟩
  unfold pyNext
  refine wpAny_bind (wpAny_attempt (wpAny_callSpecial?_slot (name := Str.ofString "__next__") hT F.slot_zip_next
    (wpAny_call_entry F.slot_zip_next hT F.entry_zip_next (zz_end hh D hz hTI hTO h1 h2 hl1 hl2 hend fun h' e hk he => ?_) (F.args_zip_next_1 _))))
  obtain ⟨o, ho, hc⟩ := he
  refine wpAny_bind (wpAny_isInstance (T := "StopIteration") (b := true) ⟨o, ho, hc⟩ isSubtype_stop ?_)
  exact wpAny_pure (hQ _ hk)
end
/-! ### the call zip(x, y) -/
abbrev itO (b : Bool) (l : Addr) : Obj := { cls := .type (itTy b), data := .fields #[.ref l, .int 0 0] }
def zpH (b1 b2 : Bool) (h : Heap) (l1 l2 : Addr) : Heap :=
  ((((h.push (itO b1 l1)).push (itO b2 l2)).push { cls := .type "tuple", data := .seq #[.ref h.objs.size, .ref (h.objs.size + 1)] }).push { cls := .type "tuple", data := .seq #[.none, .none] }).push
    { cls := .type "zip", data := .fields #[.none, .bool false, .bool false, .ref (h.objs.size + 2), .ref (h.objs.size + 3)] }
set_option maxHeartbeats 4000000 in
theorem meets_zz_new (b1 b2 : Bool) (l1 l2 : Addr) (xs ys : Array Value) :
    Meets (Builtin.«zip.__new__» ⟨[.type "zip", .ref l1, .ref l2], []⟩) (fun _ R s => SqO b1 s.heap l1 xs ∧ SqO b2 s.heap l2 ys ∧
      R (.ok (.ret (.ref (s.heap.objs.size + 4)))) { s with heap := zpH b1 b2 s.heap l1 l2 }) :=
  .of_wp fun prog w A R s h => by
    obtain ⟨hp, g, d, tk, os⟩ := s
    obtain ⟨hl1, hl2, h⟩ := h
    have hsub := sub_zip
    have hL1 : SqO b1 (Shared.heap ⟨hp, g, d, tk, os⟩) l1 xs := hl1
    have hL2 : SqO b2 (Shared.heap ⟨hp.push { cls := .type (itTy b1), data := .fields #[.ref l1, .int 0 0] }, g, d, tk, os⟩) l2 ys := SqO.push hl2 _
    have z1 : ∀ o, (hp.push o).objs.size = hp.objs.size + 1 := fun o => Heap.size_push ..
    unfold zpH at h
    wp_walk using sq_iter hL1, sq_iter hL2
    refine ⟨_, rfl, ?_⟩
    simp only [Heap.size_push, itO] at h ⊢
    exact h
end Pj

set_option Elab.async false
set_option linter.all false
set_option maxRecDepth 100000
set_option maxHeartbeats 1000000
namespace Pj
open PySem PySem.Spec PyProof.Rows L2
section
variable {prog : Program} {w : World} {A : Around} {E : Value → Shared → Prop} {s : Shared} {b1 b2 b3 : Bool}
theorem call_zz {l1 l2 : Addr} {xs ys : Array Value} {Q : Value → Shared → Prop} (hl1 : SqO b1 s.heap l1 xs) (hl2 : SqO b2 s.heap l2 ys)
    (h : ∀ h', IsZip h' (s.heap.objs.size + 4) (s.heap.objs.size + 2) (s.heap.objs.size + 3) .none → IsPair h' (s.heap.objs.size + 2) (.ref s.heap.objs.size) (.ref (s.heap.objs.size + 1)) →
      IsPair h' (s.heap.objs.size + 3) .none .none → SqI b1 h' s.heap.objs.size l1 0 → SqI b2 h' (s.heap.objs.size + 1) l2 0 →
      (∀ c o, s.heap.get? c = some o → h'.get? c = some o) → Q (.ref (s.heap.objs.size + 4)) { s with heap := h' }) :
    wpAny (model prog w) A (call (.type "zip") [.ref l1, .ref l2]) Q E s := by
  refine callType_new F.called_zip (by decide) (F.typeCall_zip_2 _ _) (F.newCall_zip_2 _ _) (fun obj => F.args_object_init_3 obj _ _) F.entry_zip_new
    (meets_zz_new b1 b2 l1 l2 xs ys) ⟨hl1, hl2, ?_⟩
  generalize hn : s.heap.objs.size = n at *
  have at_ : ∀ (h0 : Heap) (o : Obj) (k : Nat), h0.objs.size = k → o.isFreed = false → (h0.push o).get? k = some o := fun h0 o k e f => by subst e; exact Heap.get?_push_size _ f
  have sz : ∀ (h0 : Heap) (o : Obj) (k : Nat), h0.objs.size = k → (h0.push o).objs.size = k + 1 := fun h0 o k e => by rw [Heap.size_push, e]
  have e1 := sz _ (itO b1 l1) _ hn
  have e2 := sz _ (itO b2 l2) _ e1
  have e3 := sz _ { cls := .type "tuple", data := .seq #[.ref n, .ref (n + 1)] } _ e2
  have e4 := sz _ { cls := .type "tuple", data := .seq #[.none, .none] } _ e3
  unfold zpH
  rw [hn]
  have g5 := at_ _ { cls := .type "zip", data := .fields #[.none, .bool false, .bool false, .ref (n + 2), .ref (n + 3)] } _ e4 rfl
  have g4 := at_ _ { cls := .type "tuple", data := .seq #[.none, .none] } _ e3 rfl
  have g3 := at_ _ { cls := .type "tuple", data := .seq #[.ref n, .ref (n + 1)] } _ e2 rfl
  have g2 := at_ _ (itO b2 l2) _ e1 rfl
  have g1 := at_ _ (itO b1 l1) _ hn rfl
  exact ⟨⟨_, g5, rfl⟩, h _ g5 (Heap.get?_push_of_some _ (Heap.get?_push_of_some _ g3)) (Heap.get?_push_of_some _ g4)
    (sqI_new (Heap.get?_push_of_some _ (Heap.get?_push_of_some _ (Heap.get?_push_of_some _ (Heap.get?_push_of_some _ g1)))) rfl rfl)
    (sqI_new (Heap.get?_push_of_some _ (Heap.get?_push_of_some _ (Heap.get?_push_of_some _ g2))) rfl rfl)
    fun c o x => Heap.get?_push_of_some _ (Heap.get?_push_of_some _ (Heap.get?_push_of_some _ (Heap.get?_push_of_some _ (Heap.get?_push_of_some _ x))))⟩
end
/-- a list or a tuple of these values -/
def SqB (b : Bool) (K : PySem.W.Frag) (H : Hp) (a : Addr) (xs : List V) : Prop := (b = true → SqT K H a xs) ∧ (b = false → SqL K H a xs)
theorem sqB_get {X : Cx} {pins : List (Addr × Obj)} {σ : L2.St} {H : Hp} {s : Shared} {b : Bool} {a : Addr} {xs : List V} (I : Inv X pins σ H s) (h : SqB b X.K H a xs) : ∃ its : List Value, Vals xs its ∧ SqO b s.heap a its.toArray := by
  cases b with
  | true =>
    obtain ⟨its, r, p, _⟩ := I.tuple (h.1 rfl)
    exact ⟨its, r, fun _ => p, fun z => nomatch z⟩
  | false =>
    obtain ⟨its, r, p, _⟩ := I.list (h.2 rfl)
    exact ⟨its, r, fun z => (nomatch z), fun _ => p.isList⟩
theorem sqB_inj {X : Cx} {pins : List (Addr × Obj)} {σ : L2.St} {H : Hp} {s : Shared} {b : Bool} {a : Addr} {xs ys : List V} (I : Inv X pins σ H s) (h : SqB b X.K H a xs) (g : SqB b X.K H a ys) : xs = ys := by
  cases b with
  | true => exact I.tuple_inj (h.1 rfl) (g.1 rfl)
  | false => exact I.list_inj (h.2 rfl) (g.2 rfl)
/-- the sequences at a and c as they stand at each turn, the items in new pairs -/
def Itzz (b1 b2 : Bool) (K : PySem.W.Frag) (a c : Addr) : It :=
  ⟨fun i H => ∃ (xs ys : List V) (x y : V), SqB b1 K H a xs ∧ SqB b2 K H c ys ∧ xs[i]? = some x ∧ ys[i]? = some y,
    fun i H v H' => ∃ T x y, v = .ref T ∧ H T = none ∧ H' = upd H T (.tup [x, y]) ∧ (∀ xs, SqB b1 K H a xs → xs[i]? = some x) ∧ ∀ ys, SqB b2 K H c ys → ys[i]? = some y,
    fun i H => ∃ xs ys : List V, SqB b1 K H a xs ∧ SqB b2 K H c ys ∧ (xs.length ≤ i ∨ ys.length ≤ i)⟩
theorem turn_zz {P : Program} {w : World} {K : PySem.W.Frag} {b1 b2 : Bool} {elts : List Expr} {kk : Nat} {tpos : Pos} {a c z TI TO i1 i2 : Addr} (D : ZipApart z TI TO i1 i2 a c) :
    Turn P w K (.Tuple elts kk tpos) (Itzz b1 b2 K a c) [z, TI, TO, i1, i2] z (fun i h => IsZip h z TI TO .none ∧ IsPair h TI (.ref i1) (.ref i2) ∧ (∃ x y, IsPair h TO x y) ∧ SqI b1 h i1 a i ∧ SqI b2 h i2 c i) where
  mem := by simp
  obj := fun i h st d hd => by
    obtain ⟨hz, hTI, ⟨x, y, hTO⟩, h1, h2⟩ := st
    have e' : d = z ∨ d = TI ∨ d = TO ∨ d = i1 ∨ d = i2 := by simpa using hd
    rcases e' with q | q | q | q | q
    · rw [q]; exact ⟨_, hz, fun v q => nomatch q⟩
    · rw [q]; exact ⟨_, hTI, fun v q => nomatch q⟩
    · rw [q]; exact ⟨_, hTO, fun v q => nomatch q⟩
    · rw [q]; exact h1.obj
    · rw [q]; exact h2.obj
  keep := fun i h h' st k => by
    obtain ⟨hz, hTI, ⟨x, y, hTO⟩, h1, h2⟩ := st
    exact ⟨k z (by simp) _ hz, k TI (by simp) _ hTI, ⟨x, y, k TO (by simp) _ hTO⟩, h1.at fun o q => k i1 (by simp) o q, h2.at fun o q => k i2 (by simp) o q⟩
  item := by
    intro X hP hw hK hc i pins s σ H E I hf st hg
    subst hP hw hK
    obtain ⟨hz, hTI, ⟨x0, y0, hTO⟩, h1, h2⟩ := st
    obtain ⟨xs, ys, x, y, hqx, hqy, hx, hy⟩ := hg
    obtain ⟨its, rv, p⟩ := sqB_get I hqx
    obtain ⟨its2, rv2, p2⟩ := sqB_get I hqy
    obtain ⟨u, hu, ru⟩ := rv.get hx
    obtain ⟨u2, hu2, ru2⟩ := rv2.get hy
    have hzl : z < s.heap.objs.size := Heap.lt_size hz
    refine pyNext_zz_item D hz hTI hTO h1 h2 p p2 (x := u) (y := u2) (by simpa using hu) (by simpa using hu2) fun h' z' TO' h1' h2' hT hsz hk => ?_
    refine ⟨_, rfl, wpAny_letOwnedTupleGo_zip (s := { s with heap := h' }) z' fun h'' z'' sb => ?_⟩
    have hT2 : h''.get? s.heap.objs.size = some { cls := .type "tuple", data := .seq #[u, u2] } := (sb.2 _ (Nat.ne_of_gt hzl)).trans hT
    have new : ObjOk X.prog X.w (upd H s.heap.objs.size (.tup [x, y])) h'' s.heap.objs.size (.tup [x, y]) :=
      ⟨by show 2 ≤ sizeLine; decide, [u, u2], .cons ru (.cons ru2 .nil), ⟨_, hT2, rfl, _, rfl⟩⟩
    have I1 : Inv X pins σ (upd H s.heap.objs.size (.tup [x, y])) { s with heap := h'' } :=
      I.turnedNew (t' := s.toks) (ch := [z, TI, TO, i1, i2]) (fun c o hb q => (sb.2 c (fun q' => hb (by simp [q']))).trans (hk c o (fun q' => hb (by simp [q'])) (fun q' => hb (by simp [q'])) (fun q' => hb (by simp [q'])) (fun q' => hb (by simp [q'])) q)) hf (Nat.le_refl _) new
    refine ⟨.ref s.heap.objs.size, _, I1, rfl, ⟨_, x, y, rfl, I.hok.fresh (Nat.le_refl _), rfl, fun l hl => by rw [sqB_inj I hl hqx]; exact hx, fun l hl => by rw [sqB_inj I hl hqy]; exact hy⟩, ⟨z'', ?_, ⟨u, u2, ?_⟩, ?_, ?_⟩, fun c hcm => ?_⟩
    · exact (sb.2 _ D.TIz).trans (hk _ _ D.TIz D.TITO D.TIi1 D.TIi2 hTI)
    · exact (sb.2 _ D.TOz).trans TO'
    · exact h1'.at fun o q => (sb.2 _ D.i1z).trans q
    · exact h2'.at fun o q => (sb.2 _ D.i2z).trans q
    · have hlt : c < s.heap.objs.size := by
        have e' : c = z ∨ c = TI ∨ c = TO ∨ c = i1 ∨ c = i2 := by simpa using hcm
        rcases e' with q | q | q | q | q
        · rw [q]; exact hzl
        · rw [q]; exact Heap.lt_size hTI
        · rw [q]; exact Heap.lt_size hTO
        · rw [q]; exact h1.lt
        · rw [q]; exact h2.lt
      rw [upd_ne (Nat.ne_of_lt hlt)]
      exact (hf c hcm).1
  done := by
    intro X hP hw hK hc i pins s σ H E I hf st hg
    subst hP hw hK
    obtain ⟨hz, hTI, ⟨x0, y0, hTO⟩, h1, h2⟩ := st
    obtain ⟨xs, ys, hqx, hqy, hend⟩ := hg
    obtain ⟨its, rv, p⟩ := sqB_get I hqx
    obtain ⟨its2, rv2, p2⟩ := sqB_get I hqy
    have l1 := rv.length
    have l2 := rv2.length
    have he : its.toArray[i]? = none ∨ its2.toArray[i]? = none := by
      rcases hend with q | q
      · exact .inl (by simp; omega)
      · exact .inr (by simp; omega)
    exact pyNext_zz_end (I.ok.hd hc) D hz hTI hTO h1 h2 p p2 he fun h' hk => ⟨rfl, I.turnedL (t' := s.toks) (ch := [z, TI, TO, i1, i2]) (fun c o hb q =>
      hk c o (fun q' => hb (by simp [q'])) (fun q' => hb (by simp [q'])) (fun q' => hb (by simp [q'])) (fun q' => hb (by simp [q'])) q) hf⟩
  self := fun A i s Q E st h => wpAny_pyIter_zip st.1 h
def iZz (K : PySem.W.Frag) (ta : TA) : TI := fun σ H R => ta σ H fun vs H1 => ∃ (b1 b2 : Bool) (a c : Addr) (xs ys : List V), vs = [.ref a, .ref c] ∧ SqB b1 K H1 a xs ∧ SqB b2 K H1 c ys ∧ R (Itzz b1 b2 K a c) H1
theorem pi_zz {X : Cx} {e e2 : Expr} {ta : TA} {p pos tpos : Pos} {elts : List Expr} {kk : Nat} (hg : Gl X "zip") (hm : X.mg "zip" = none) (ha : PA X [e, e2] ta)
    (hs : starEach [e, e2] X.env = (false, eval e X.env) :: starEach [e2] X.env := by rfl) (hpl : (backTo pos (starEach [e2] X.env)).any (·.1) = false := by rfl) :
    PI X (.Tuple elts kk tpos) (.Call (.Name "zip" p) [e, e2] [] pos) (iZz X.K ta) := by
  refine ⟨fun pins s σ H R I h => ?_⟩
  refine Call_ (ld_blt I hg hm PyProof.Rows.boot_zip (PyProof.Rows.callWith_type1 (thn (ha.run pos pins s σ H _ I h) fun us s1 ⟨vs, H1, I1, r1, q1⟩ => ?_) hs hpl))
  obtain ⟨b1, b2, a, c, xs, ys, ex, hqx, hqy, q⟩ := q1
  subst ex
  cases r1 with
  | cons r rr =>
    cases rr with
    | cons r' rr =>
      cases rr
      cases r
      cases r'
      obtain ⟨its, rv, p1⟩ := sqB_get I1 hqx
      obtain ⟨its2, rv2, p2⟩ := sqB_get I1 hqy
      refine call_zz p1 p2 fun h' hz hTI hTO h1 h2 hk => wpAny_pyIter_zip hz ?_
      have I2 : Inv X pins σ H1 { s1 with heap := h' } := I1.kept (t' := s1.toks) hk
      refine ⟨s1.heap.objs.size + 4, [s1.heap.objs.size + 4, s1.heap.objs.size + 2, s1.heap.objs.size + 3, s1.heap.objs.size, s1.heap.objs.size + 1], _, _, H1, rfl, I2, turn_zz (PySem.W.ktu_apart s1.heap.objs.size a c p1.lt p2.lt), ⟨hz, hTI, ⟨_, _, hTO⟩, h1, h2⟩, fun d hd => ?_, q⟩
      have hle : s1.heap.objs.size ≤ d := by
        have e' : d = s1.heap.objs.size + 4 ∨ d = s1.heap.objs.size + 2 ∨ d = s1.heap.objs.size + 3 ∨ d = s1.heap.objs.size ∨ d = s1.heap.objs.size + 1 := by simpa using hd
        rcases e' with z | z | z | z | z <;> (rw [z]; first | exact Nat.le_refl _ | exact Nat.le_add_right _ _)
      exact I1.fpOk hle (I1.hok.fresh hle)
/-! ### in the layer -/
theorem dp_items {K : PySem.W.Frag} {F : Hp} {v : V} {x : PD} {ds : List PD} (h : Dp K F v x) (hx : itemsOf x = some ds) : ∃ (b : Bool) (a : Addr) (xs : List V), v = .ref a ∧ SqB b K F a xs ∧ DpAll K F xs ds := by
  cases h with
  | lst hs ha => cases hx; exact ⟨false, _, _, rfl, ⟨fun z => (nomatch z), fun _ => hs⟩, ha⟩
  | tup hs ha => cases hx; exact ⟨true, _, _, rfl, ⟨fun _ => hs, fun z => nomatch z⟩, ha⟩
  | _ => cases hx
theorem SqB.mono {b : Bool} {K : PySem.W.Frag} {F H : Hp} {a : Addr} {xs : List V} (h : SqB b K F a xs) (e : Same F H) : SqB b K H a xs := ⟨fun x => Same.seqT e (h.1 x), fun x => Same.seq e (h.2 x)⟩
def zipD (as bs : List PD) : List PD := List.zipWith (fun a b => .tuple [a, b]) as bs
theorem wk_zz {K : PySem.W.Frag} {F1 : Hp} {b1 b2 : Bool} {a c : Addr} {xs ys : List V} {ds es : List PD} (s1 : SqB b1 K F1 a xs) (s2 : SqB b2 K F1 c ys) (d1 : DpAll K F1 xs ds) (d2 : DpAll K F1 ys es) : Wk K F1 (Itzz b1 b2 K a c) (zipD ds es) := by
  refine ⟨⟨fun H => SqB b1 K H a xs ∧ SqB b2 K H c ys, fun F H e1 e2 => ⟨s1.mono (e1.trans e2), s2.mono (e1.trans e2)⟩, fun i H hi g => ?_, fun H g => ?_, fun i d F H x H' hd e1 e2 yl => ?_⟩⟩
  · unfold zipD at hi
    rw [List.length_zipWith] at hi
    have l1 := DpAll.len d1
    have l2 := DpAll.len d2
    exact ⟨xs, ys, xs[i]'(by omega), ys[i]'(by omega), g.1, g.2, List.getElem?_eq_getElem (by omega), List.getElem?_eq_getElem (by omega)⟩
  · refine ⟨xs, ys, g.1, g.2, ?_⟩
    unfold zipD
    rw [List.length_zipWith]
    have l1 := DpAll.len d1
    have l2 := DpAll.len d2
    omega
  · obtain ⟨T, u, v, rfl, hT, rfl, g1, g2⟩ := yl
    have s1' := s1.mono (e1.trans e2)
    have s2' := s2.mono (e1.trans e2)
    obtain ⟨da, k1, k2⟩ := DpAll.at d1 (g1 xs s1')
    obtain ⟨db, k3, k4⟩ := DpAll.at d2 (g2 ys s2')
    have ed : d = .tuple [da, db] := by
      unfold zipD at hd
      rw [List.getElem?_zipWith, k1, k3] at hd
      exact (Option.some.inj hd).symm
    subst ed
    refine ⟨upd F T (.tup [u, v]), Xt.frz e2 hT, ?_⟩
    have hF : F T = none := by
      cases hh : F T with
      | none => rfl
      | some o => have := e2 T o hh; rw [hT] at this; cases this
    have up : Same F (upd F T (.tup [u, v])) := same_upd hF
    exact .tup (.inl (.inl (upd_same ..))) (.cons (Dp.mono k2 (e1.trans up)) (.cons (Dp.mono k4 (e1.trans up)) .nil))
section
variable {X : Cx} {W : WX} {ρ ρ1 ρ2 : En} {e e2 : Expr} {x y : PD} {ds es : List PD} {p pos tpos : Pos} {elts : List Expr} {kk : Nat}
theorem it_zip (ha : EJ X W e ρ (.ok ρ1 (.va x))) (hb : EJ X W e2 ρ1 (.ok ρ2 (.va y))) (hm : X.mg "zip" = none) (hx : itemsOf x = some ds := by rfl) (hy : itemsOf y = some es := by rfl) (hg : Gl X "zip" := by rfl)
    (hs : starEach [e, e2] X.env = (false, eval e X.env) :: starEach [e2] X.env := by rfl) (hs2 : starEach [e2] X.env = (false, eval e2 X.env) :: starEach [] X.env := by rfl) (hpl : (backTo pos (starEach [e2] X.env)).any (·.1) = false := by rfl) :
    ItJ X W (.Tuple elts kk tpos) (.Call (.Name "zip" p) [e, e2] [] pos) ρ ρ2 (zipD ds es) := by
  obtain ⟨t, h1, h2⟩ := aj_cons ha (aj_cons hb aj_nil hs2) hs
  refine ⟨_, pi_zz hg hm h1 hs hpl, fun F H σ R RR q => h2 F H σ _ RR fun F1 H1 vs x1 R1 q1 => ?_⟩
  match vs, q1 with
  | [u, v], .cons c1 (.cons c2 .nil) =>
    obtain ⟨b1, a, xs, rfl, s1, d1⟩ := dp_items c1 hx
    obtain ⟨b2, c, ys, rfl, s2, d2⟩ := dp_items c2 hy
    exact ⟨b1, b2, a, c, xs, ys, rfl, s1.mono R1.fh, s2.mono R1.fh, q F1 H1 _ x1 R1 (wk_zz s1 s2 d1 d2)⟩
end
end Pj

set_option Elab.async false
set_option linter.all false
set_option maxRecDepth 100000
set_option maxHeartbeats 1000000
/-! Pi8: zip of two lists or tuples with a plain name as the target. -/
namespace Pj
open PySem PySem.Spec PyProof.Rows L2
abbrev IsZ (h : Heap) (z TI TO : Addr) (f0 : Value) (f : Bool) : Prop :=
  h.get? z = some { cls := .type "zip", dict := none, data := .fields #[f0, .bool f, .bool false, .ref TI, .ref TO], slots := #[] }
section
variable {prog : Program} {w : World} {A : Around} {E : Value → Shared → Prop} {s : Shared} {b1 b2 b3 : Bool}
theorem load_any {a : Addr} {Q : Option Obj → Shared → Prop} (h : Q (s.heap.get? a) s) : wpAny (model prog w) A (loadIfAlive a) Q E s := fun _ _ _ => h
theorem otf_free {z TI TO : Addr} {f0 : Value} {f : Bool} {Q : Bool → Shared → Prop} (hz : IsZ s.heap z TI TO f0 f) (hfr : f0 = .none ∨ ∃ T : Addr, f0 = rawInt T ∧ s.heap.get? T = none) (h : Q true s) :
    wpAny (model prog w) A (Builtin.SmallTypes.ownedTupleIsFree (.ref z)) Q E s := by
  unfold Builtin.SmallTypes.ownedTupleIsFree
  rcases hfr with rfl | ⟨T, rfl, hT⟩
  · exact wpAny_bind (wpAny_field hz rfl (x := .none) rfl (wpAny_pure h))
  · refine wpAny_bind (wpAny_field hz rfl (x := rawInt T) rfl ?_)
    show wpAny _ _ (loadIfAlive ((T : Int).toNat) >>= _) _ _ _
    rw [Int.toNat_natCast]
    refine wpAny_bind (load_any ?_)
    rw [hT]
    simp only [Option.isNone_none, if_true]
    exact wpAny_pure h
theorem zn_item_free {z TI TO i1 i2 l1 l2 : Addr} {f0 : Value} {f : Bool} {k1 k2 : Nat} {xs ys : Array Value} {x y a b : Value} {Q : Value → Shared → Prop} (D : ZipApart z TI TO i1 i2 l1 l2)
    (hz : IsZ s.heap z TI TO f0 f) (hfr : f0 = .none ∨ ∃ T : Addr, f0 = rawInt T ∧ s.heap.get? T = none) (hTI : IsPair s.heap TI (.ref i1) (.ref i2)) (hTO : IsPair s.heap TO a b)
    (h1 : SqI b1 s.heap i1 l1 k1) (h2 : SqI b2 s.heap i2 l2 k2) (hl1 : SqO b1 s.heap l1 xs) (hl2 : SqO b2 s.heap l2 ys) (hx : xs[k1]? = some x) (hy : ys[k2]? = some y)
    (hQ : ∀ h', IsZ h' z TI TO (rawInt s.heap.objs.size) false → IsPair h' TO x y → SqI b1 h' i1 l1 (k1 + 1) → SqI b2 h' i2 l2 (k2 + 1) → IsPair h' s.heap.objs.size x y → h'.objs.size = s.heap.objs.size + 1 →
      (∀ c o, c ≠ z → c ≠ TO → c ≠ i1 → c ≠ i2 → s.heap.get? c = some o → h'.get? c = some o) → Q (.ref s.heap.objs.size) { s with heap := h' }) :
    wpAny (model prog w) A (Builtin.«zip.__next__» ⟨[.ref z], []⟩) (fun fin s' => ∃ v, fin = .done (.ret v) ∧ Q v s') E s := by
  show wpAny _ _ (field (.ref z) 2 >>= _) _ _ _
  refine wpAny_bind (wpAny_field hz rfl (x := .bool false) rfl ?_)
  show wpAny _ _ (field (.ref z) 3 >>= _) _ _ _
  refine wpAny_bind (wpAny_field hz rfl (x := .ref TI) rfl ?_)
  refine wpAny_bind (wpAny_seqItems hTI rfl ?_)
  show wpAny _ _ (Builtin.SmallTypes.ownedTupleIsFree (.ref z) >>= _) _ _ _
  refine wpAny_bind (otf_free hz hfr ?_)
  simp only [if_true]
  refine wpAny_bind (wpAny_rule ?_)
  refine wpAny_bind (wpAny_field hz rfl (x := .ref TO) rfl ?_)
  refine wpAny_bind (wpAny_setField_rec hz (by simp) fun g1 zg1 s1 => ?_)
  replace zg1 : IsZ g1 z TI TO .ellipsis f := zg1
  refine wpAny_bind ?_
  simp only [List.zipIdx_cons, List.zipIdx_nil, List.forIn_cons, List.forIn_nil]
  refine wpAny_bind (wpAny_bind (wpAny_onRaise ?_))
  show wpAny _ _ (Builtin.SmallTypes.nextOf (.ref i1) >>= _) _ _ _
  refine wpAny_bind (sq_item (h1.ext s1.extBut D.i1z) (hl1.ext s1.extBut D.l1z) hx fun g2 u2 s2 => wpAny_pure ?_)
  have p2 : IsPair g2 TO a b := s2.extBut _ _ D.TOi1 (s1.extBut _ _ D.TOz hTO)
  refine wpAny_bind (wpAny_seqItems p2 rfl ?_)
  refine wpAny_bind (wpAny_updateSeq_pair p2 fun g3 p3 s3 => ?_)
  replace p3 : IsPair g3 TO x b := p3
  refine wpAny_bind (wpAny_letGo (wpAny_pure ?_))
  refine wpAny_bind (wpAny_bind (wpAny_onRaise ?_))
  show wpAny _ _ (Builtin.SmallTypes.nextOf (.ref i2) >>= _) _ _ _
  refine wpAny_bind (sq_item (((h2.ext s1.extBut D.i2z).ext s2.extBut D.i12.symm).ext s3.extBut D.TOi2.symm) (((hl2.ext s1.extBut D.l2z).ext s2.extBut D.l2i1).ext s3.extBut D.l2TO) hy fun g4 u4 s4 => wpAny_pure ?_)
  have p4 : IsPair g4 TO x b := s4.extBut _ _ D.TOi2 p3
  refine wpAny_bind (wpAny_seqItems p4 rfl ?_)
  refine wpAny_bind (wpAny_updateSeq_pair p4 fun g5 p5 s5 => ?_)
  replace p5 : IsPair g5 TO x y := p5
  refine wpAny_bind (wpAny_letGo (wpAny_pure (wpAny_pure ?_)))
  refine wpAny_bind (wpAny_seqItems p5 rfl ?_)
  refine wpAny_bind (wpAny_newTuple ?_)
  have sz : g5.objs.size = s.heap.objs.size := by rw [s5.1, s4.1, s3.1, s2.1, s1.1]
  have zg5 : IsZ g5 z TI TO .ellipsis f := s5.extBut _ _ D.TOz.symm (s4.extBut _ _ D.i2z.symm (s3.extBut _ _ D.TOz.symm (s2.extBut _ _ D.i1z.symm zg1)))
  have keep : ∀ c o, c ≠ z → c ≠ TO → c ≠ i1 → c ≠ i2 → s.heap.get? c = some o → g5.get? c = some o := fun c o n1 n2 n3 n4 e =>
    s5.extBut _ _ n2 (s4.extBut _ _ n4 (s3.extBut _ _ n2 (s2.extBut _ _ n3 (s1.extBut _ _ n1 e))))
  have v1 : SqI b1 g5 i1 l1 (k1 + 1) := ((u2.ext s3.extBut D.TOi1.symm).ext s4.extBut D.i12).ext s5.extBut D.TOi1.symm
  have v2 : SqI b2 g5 i2 l2 (k2 + 1) := u4.ext s5.extBut D.TOi2.symm
  have zlt : z < g5.objs.size := Heap.lt_size zg5
  show wpAny _ _ (Builtin.SmallTypes.ownedTupleHandOut (.ref z) (.ref g5.objs.size) >>= _) _ _ _
  refine wpAny_bind ?_
  unfold Builtin.SmallTypes.ownedTupleHandOut
  have zg6 : IsZ (g5.push { cls := .type "tuple", data := .seq #[x, y] }) z TI TO .ellipsis f := Heap.get?_push_of_some _ zg5
  refine wpAny_bind (wpAny_setField_rec zg6 (by simp) fun g7 zg7 s7 => ?_)
  replace zg7 : IsZ g7 z TI TO (rawInt g5.objs.size) f := zg7
  refine wpAny_setField_rec zg7 (by simp) fun g8 zg8 s8 => ?_
  replace zg8 : IsZ g8 z TI TO (rawInt g5.objs.size) false := zg8
  have up : ∀ c o, c ≠ z → g5.get? c = some o → g8.get? c = some o := fun c o n e => s8.extBut _ _ n (s7.extBut _ _ n (Heap.get?_push_of_some _ e))
  have pT : IsPair g8 g5.objs.size x y := s8.extBut _ _ (Nat.ne_of_gt zlt) (s7.extBut _ _ (Nat.ne_of_gt zlt) (Heap.get?_push_size _ rfl))
  have sz8 : g8.objs.size = g5.objs.size + 1 := by rw [s8.1, s7.1, Heap.size_push]
  rw [sz] at zg8 pT sz8
  refine wpAny_pure ⟨_, rfl, ?_⟩
  show Q (.ref g5.objs.size) _
  rw [sz]
  exact hQ g8 zg8 (up _ _ D.TOz p5) (v1.at fun o e => up _ o D.i1z e) (v2.at fun o e => up _ o D.i2z e) pT sz8 fun c o n1 n2 n3 n4 e => up c o n1 (keep c o n1 n2 n3 n4 e)
theorem zn_end_free {z TI TO i1 i2 l1 l2 : Addr} {f0 : Value} {f : Bool} {k1 k2 : Nat} {xs ys : Array Value} {a b : Value} {Q : Fin → Shared → Prop} (hh : A.handled = none) (D : ZipApart z TI TO i1 i2 l1 l2)
    (hz : IsZ s.heap z TI TO f0 f) (hfr : f0 = .none ∨ ∃ T : Addr, f0 = rawInt T ∧ s.heap.get? T = none) (hTI : IsPair s.heap TI (.ref i1) (.ref i2)) (hTO : IsPair s.heap TO a b)
    (h1 : SqI b1 s.heap i1 l1 k1) (h2 : SqI b2 s.heap i2 l2 k2) (hl1 : SqO b1 s.heap l1 xs) (hl2 : SqO b2 s.heap l2 ys) (hend : xs[k1]? = none ∨ ys[k2]? = none)
    (hE : ∀ h' e, (∀ c o, c ≠ z → c ≠ TO → c ≠ i1 → c ≠ i2 → s.heap.get? c = some o → h'.get? c = some o) → (∃ o, h'.get? e = some o ∧ o.cls = .type "StopIteration") → E (.ref e) { s with heap := h' }) :
    wpAny (model prog w) A (Builtin.«zip.__next__» ⟨[.ref z], []⟩) Q E s := by
  show wpAny _ _ (field (.ref z) 2 >>= _) _ _ _
  refine wpAny_bind (wpAny_field hz rfl (x := .bool false) rfl ?_)
  show wpAny _ _ (field (.ref z) 3 >>= _) _ _ _
  refine wpAny_bind (wpAny_field hz rfl (x := .ref TI) rfl ?_)
  refine wpAny_bind (wpAny_seqItems hTI rfl ?_)
  show wpAny _ _ (Builtin.SmallTypes.ownedTupleIsFree (.ref z) >>= _) _ _ _
  refine wpAny_bind (otf_free hz hfr ?_)
  simp only [if_true]
  refine wpAny_bind (wpAny_rule ?_)
  refine wpAny_bind (wpAny_field hz rfl (x := .ref TO) rfl ?_)
  refine wpAny_bind (wpAny_setField_rec hz (by simp) fun g1 zg1 s1 => ?_)
  replace zg1 : IsZ g1 z TI TO .ellipsis f := zg1
  refine wpAny_bind ?_
  simp only [List.zipIdx_cons, List.zipIdx_nil, List.forIn_cons, List.forIn_nil]
  refine wpAny_bind (wpAny_bind (wpAny_onRaise ?_))
  show wpAny _ _ (Builtin.SmallTypes.nextOf (.ref i1) >>= _) _ _ _
  cases hx : xs[k1]? with
  | none =>
    refine wpAny_bind (sq_end hh (h1.ext s1.extBut D.i1z) (hl1.ext s1.extBut D.l1z) hx fun g2 e s2 he => ?_)
    obtain ⟨oe, f1, f2⟩ := he
    have zg2 : IsZ g2 z TI TO .ellipsis f := s2 _ _ D.i1z.symm zg1
    have ez : e ≠ z := fun q => by subst q; rw [zg2] at f1; cases f1; simp at f2
    refine wpAny_setField_rec zg2 (by simp) fun g3 _ s3 => hE g3 e (fun c o n1 _ n3 _ q => s3.extBut _ _ n1 (s2 _ _ n3 (s1.extBut _ _ n1 q))) ⟨oe, s3.extBut _ _ ez f1, f2⟩
  | some x =>
    have hy : ys[k2]? = none := by
      rcases hend with h | h
      · rw [hx] at h; cases h
      · exact h
    refine wpAny_bind (sq_item (h1.ext s1.extBut D.i1z) (hl1.ext s1.extBut D.l1z) hx fun g2 u2 s2 => wpAny_pure ?_)
    have p2 : IsPair g2 TO a b := s2.extBut _ _ D.TOi1 (s1.extBut _ _ D.TOz hTO)
    refine wpAny_bind (wpAny_seqItems p2 rfl ?_)
    refine wpAny_bind (wpAny_updateSeq_pair p2 fun g3 p3 s3 => ?_)
    refine wpAny_bind (wpAny_letGo (wpAny_pure ?_))
    refine wpAny_bind (wpAny_bind (wpAny_onRaise ?_))
    show wpAny _ _ (Builtin.SmallTypes.nextOf (.ref i2) >>= _) _ _ _
    refine wpAny_bind (sq_end hh (((h2.ext s1.extBut D.i2z).ext s2.extBut D.i12.symm).ext s3.extBut D.TOi2.symm) (((hl2.ext s1.extBut D.l2z).ext s2.extBut D.l2i1).ext s3.extBut D.l2TO) hy fun g4 e s4 he => ?_)
    obtain ⟨oe, f1, f2⟩ := he
    have zg4 : IsZ g4 z TI TO .ellipsis f := s4 _ _ D.i2z.symm (s3.extBut _ _ D.TOz.symm (s2.extBut _ _ D.i1z.symm zg1))
    have ez : e ≠ z := fun q => by subst q; rw [zg4] at f1; cases f1; simp at f2
    refine wpAny_setField_rec zg4 (by simp) fun g5 _ s5 => hE g5 e (fun c o n1 n2 n3 n4 q => s5.extBut _ _ n1 (s4 _ _ n4 (s3.extBut _ _ n2 (s2.extBut _ _ n3 (s1.extBut _ _ n1 q))))) ⟨oe, s5.extBut _ _ ez f1, f2⟩
theorem zn_item_held {z TI TO T i1 i2 l1 l2 : Addr} {f : Bool} {oT : Obj} {k1 k2 : Nat} {xs ys : Array Value} {x y : Value} {Q : Value → Shared → Prop} (D : ZipApart z TI TO i1 i2 l1 l2)
    (hz : IsZ s.heap z TI TO (rawInt T) f) (hT : s.heap.get? T = some oT) (hTI : IsPair s.heap TI (.ref i1) (.ref i2))
    (h1 : SqI b1 s.heap i1 l1 k1) (h2 : SqI b2 s.heap i2 l2 k2) (hl1 : SqO b1 s.heap l1 xs) (hl2 : SqO b2 s.heap l2 ys) (hx : xs[k1]? = some x) (hy : ys[k2]? = some y)
    (hQ : ∀ h', IsZ h' z TI TO (rawInt T) true → SqI b1 h' i1 l1 (k1 + 1) → SqI b2 h' i2 l2 (k2 + 1) → IsPair h' s.heap.objs.size x y → h'.objs.size = s.heap.objs.size + 1 →
      (∀ c o, c ≠ z → c ≠ i1 → c ≠ i2 → s.heap.get? c = some o → h'.get? c = some o) → Q (.ref s.heap.objs.size) { s with heap := h' }) :
    wpAny (model prog w) A (Builtin.«zip.__next__» ⟨[.ref z], []⟩) (fun fin s' => ∃ v, fin = .done (.ret v) ∧ Q v s') E s := by
  show wpAny _ _ (field (.ref z) 2 >>= _) _ _ _
  refine wpAny_bind (wpAny_field hz rfl (x := .bool false) rfl ?_)
  show wpAny _ _ (field (.ref z) 3 >>= _) _ _ _
  refine wpAny_bind (wpAny_field hz rfl (x := .ref TI) rfl ?_)
  refine wpAny_bind (wpAny_seqItems hTI rfl ?_)
  show wpAny _ _ (Builtin.SmallTypes.ownedTupleIsFree (.ref z) >>= _) _ _ _
  refine wpAny_bind (PySem.wpAny_tupleHeld_zip hz hT fun g1 zg1 s1 => ?_)
  simp only [Bool.false_eq_true, if_false]
  refine wpAny_bind ?_
  rw [← Array.forIn_toList]
  simp only [List.forIn_cons, List.forIn_nil]
  refine wpAny_bind (wpAny_bind (wpAny_holding ?_))
  show wpAny _ _ (Builtin.SmallTypes.nextOf (.ref i1) >>= _) _ _ _
  refine wpAny_bind (sq_item (s := { s with heap := g1 }) (h1.ext s1.extBut D.i1z) (hl1.ext s1.extBut D.l1z) hx fun g2 u2 s2 => wpAny_pure ?_)
  refine wpAny_pure ?_
  refine wpAny_bind (wpAny_bind (wpAny_holding ?_))
  show wpAny _ _ (Builtin.SmallTypes.nextOf (.ref i2) >>= _) _ _ _
  refine wpAny_bind (sq_item (s := { s with heap := g2 }) ((h2.ext s1.extBut D.i2z).ext s2.extBut D.i12.symm) ((hl2.ext s1.extBut D.l2z).ext s2.extBut D.l2i1) hy fun g3 u3 s3 => wpAny_pure ?_)
  refine wpAny_pure (wpAny_pure ?_)
  show wpAny _ _ (newTuple [x, y] >>= _) _ _ _
  refine wpAny_bind (wpAny_newTuple ?_)
  have sz : g3.objs.size = s.heap.objs.size := by rw [s3.1, s2.1, s1.1]
  have zg3 : IsZ g3 z TI TO (rawInt T) true := s3.extBut _ _ D.i2z.symm (s2.extBut _ _ D.i1z.symm zg1)
  have keep : ∀ c o, c ≠ z → c ≠ i1 → c ≠ i2 → s.heap.get? c = some o → g3.get? c = some o := fun c o n1 n2 n3 e => s3.extBut _ _ n3 (s2.extBut _ _ n2 (s1.extBut _ _ n1 e))
  have v1 : SqI b1 g3 i1 l1 (k1 + 1) := u2.ext s3.extBut D.i12
  refine wpAny_pure ⟨_, rfl, ?_⟩
  show Q (.ref g3.objs.size) _
  have pT : IsPair (g3.push { cls := .type "tuple", data := .seq #[x, y] }) g3.objs.size x y := Heap.get?_push_size _ rfl
  have sz4 : (g3.push { cls := .type "tuple", data := .seq #[x, y] }).objs.size = g3.objs.size + 1 := Heap.size_push ..
  rw [sz] at pT sz4 ⊢
  exact hQ _ (Heap.get?_push_of_some _ zg3) (v1.at fun o e => Heap.get?_push_of_some _ e) (u3.at fun o e => Heap.get?_push_of_some _ e) pT sz4 fun c o n1 n2 n3 e => Heap.get?_push_of_some _ (keep c o n1 n2 n3 e)
theorem zn_end_held {z TI TO T i1 i2 l1 l2 : Addr} {f : Bool} {oT : Obj} {k1 k2 : Nat} {xs ys : Array Value} {Q : Fin → Shared → Prop} (hh : A.handled = none) (D : ZipApart z TI TO i1 i2 l1 l2)
    (hz : IsZ s.heap z TI TO (rawInt T) f) (hT : s.heap.get? T = some oT) (hTI : IsPair s.heap TI (.ref i1) (.ref i2))
    (h1 : SqI b1 s.heap i1 l1 k1) (h2 : SqI b2 s.heap i2 l2 k2) (hl1 : SqO b1 s.heap l1 xs) (hl2 : SqO b2 s.heap l2 ys) (hend : xs[k1]? = none ∨ ys[k2]? = none)
    (hE : ∀ h' e, (∀ c o, c ≠ z → c ≠ i1 → c ≠ i2 → s.heap.get? c = some o → h'.get? c = some o) → (∃ o, h'.get? e = some o ∧ o.cls = .type "StopIteration") → E (.ref e) { s with heap := h' }) :
    wpAny (model prog w) A (Builtin.«zip.__next__» ⟨[.ref z], []⟩) Q E s := by
  show wpAny _ _ (field (.ref z) 2 >>= _) _ _ _
  refine wpAny_bind (wpAny_field hz rfl (x := .bool false) rfl ?_)
  show wpAny _ _ (field (.ref z) 3 >>= _) _ _ _
  refine wpAny_bind (wpAny_field hz rfl (x := .ref TI) rfl ?_)
  refine wpAny_bind (wpAny_seqItems hTI rfl ?_)
  show wpAny _ _ (Builtin.SmallTypes.ownedTupleIsFree (.ref z) >>= _) _ _ _
  refine wpAny_bind (PySem.wpAny_tupleHeld_zip hz hT fun g1 zg1 s1 => ?_)
  simp only [Bool.false_eq_true, if_false]
  refine wpAny_bind ?_
  rw [← Array.forIn_toList]
  simp only [List.forIn_cons, List.forIn_nil]
  refine wpAny_bind (wpAny_bind (wpAny_holding ?_))
  show wpAny _ _ (Builtin.SmallTypes.nextOf (.ref i1) >>= _) _ _ _
  cases hx : xs[k1]? with
  | none =>
    refine wpAny_bind (sq_end (s := { s with heap := g1 }) hh (h1.ext s1.extBut D.i1z) (hl1.ext s1.extBut D.l1z) hx fun g2 e s2 he => ?_)
    exact hE g2 e (fun c o n1 n2 _ q => s2 _ _ n2 (s1.extBut _ _ n1 q)) he
  | some x =>
    have hy : ys[k2]? = none := by
      rcases hend with h | h
      · rw [hx] at h; cases h
      · exact h
    refine wpAny_bind (sq_item (s := { s with heap := g1 }) (h1.ext s1.extBut D.i1z) (hl1.ext s1.extBut D.l1z) hx fun g2 u2 s2 => wpAny_pure ?_)
    refine wpAny_pure ?_
    refine wpAny_bind (wpAny_bind (wpAny_holding ?_))
    show wpAny _ _ (Builtin.SmallTypes.nextOf (.ref i2) >>= _) _ _ _
    refine wpAny_bind (sq_end (s := { s with heap := g2 }) hh ((h2.ext s1.extBut D.i2z).ext s2.extBut D.i12.symm) ((hl2.ext s1.extBut D.l2z).ext s2.extBut D.l2i1) hy fun g3 e s3 he => ?_)
    exact hE g3 e (fun c o n1 n2 n3 q => s3 _ _ n3 (s2.extBut _ _ n2 (s1.extBut _ _ n1 q))) he
/-- its state between two turns: the tuple last handed out may be alive or not -/
def ZnSt (h : Heap) (z TI TO : Addr) : Prop := ∃ (f0 : Value) (f : Bool), IsZ h z TI TO f0 f ∧ (f0 = .none ∨ ∃ T : Addr, f0 = rawInt T)
theorem ZnSt.get {h : Heap} {z TI TO : Addr} (q : ZnSt h z TI TO) : ∃ o, h.get? z = some o ∧ o.cls = .type "zip" ∧ ∀ v, o.data ≠ .cell v := by
  obtain ⟨f0, f, e, _⟩ := q
  exact ⟨_, e, rfl, fun v z => nomatch z⟩
theorem pyNext_zn_item {z TI TO i1 i2 l1 l2 : Addr} {k1 k2 : Nat} {xs ys : Array Value} {x y a b : Value} {Q : Option Value → Shared → Prop} (D : ZipApart z TI TO i1 i2 l1 l2)
    (hz : ZnSt s.heap z TI TO) (hTI : IsPair s.heap TI (.ref i1) (.ref i2)) (hTO : IsPair s.heap TO a b)
    (h1 : SqI b1 s.heap i1 l1 k1) (h2 : SqI b2 s.heap i2 l2 k2) (hl1 : SqO b1 s.heap l1 xs) (hl2 : SqO b2 s.heap l2 ys) (hx : xs[k1]? = some x) (hy : ys[k2]? = some y)
    (hQ : ∀ h', ZnSt h' z TI TO → (∃ x y, IsPair h' TO x y) → SqI b1 h' i1 l1 (k1 + 1) → SqI b2 h' i2 l2 (k2 + 1) → IsPair h' s.heap.objs.size x y → h'.objs.size = s.heap.objs.size + 1 →
      (∀ c o, c ≠ z → c ≠ TO → c ≠ i1 → c ≠ i2 → s.heap.get? c = some o → h'.get? c = some o) → Q (some (.ref s.heap.objs.size)) { s with heap := h' }) :
    wpAny (model prog w) A (pyNext (.ref z)) Q E s := by
  obtain ⟨f0, f, hz, ht⟩ := hz
  have hT : s.TypeIs (.ref z) "zip" := ⟨_, hz, rfl⟩
  unfold pyNext
  refine wpAny_bind (wpAny_attempt (wpAny_callSpecial?_slot (name := Str.ofString "__next__") hT F.slot_zip_next
    (wpAny_call_entry F.slot_zip_next hT F.entry_zip_next ?_ (F.args_zip_next_1 _))))
  have fr : (f0 = .none ∨ ∃ T : Addr, f0 = rawInt T ∧ s.heap.get? T = none) ∨ ∃ (T : Addr) (oT : Obj), f0 = rawInt T ∧ s.heap.get? T = some oT := by
    rcases ht with h | ⟨T, h⟩
    · exact .inl (.inl h)
    · cases e : s.heap.get? T with
      | none => exact .inl (.inr ⟨T, h, e⟩)
      | some oT => exact .inr ⟨T, oT, h, e⟩
  rcases fr with fr | ⟨T, oT, rfl, hTo⟩
  · exact zn_item_free D hz fr hTI hTO h1 h2 hl1 hl2 hx hy fun h' a1 a2 a3 a4 a5 a6 a7 => wpAny_pure (hQ h' ⟨_, _, a1, .inr ⟨_, rfl⟩⟩ ⟨_, _, a2⟩ a3 a4 a5 a6 a7)
  · exact zn_item_held D hz hTo hTI h1 h2 hl1 hl2 hx hy fun h' a1 a3 a4 a5 a6 a7 => wpAny_pure (hQ h' ⟨_, _, a1, .inr ⟨_, rfl⟩⟩ ⟨_, _, a7 _ _ D.TOz D.TOi1 D.TOi2 hTO⟩ a3 a4 a5 a6 fun c o n1 _ n3 n4 e => a7 c o n1 n3 n4 e)
theorem pyNext_zn_end {z TI TO i1 i2 l1 l2 : Addr} {k1 k2 : Nat} {xs ys : Array Value} {a b : Value} {Q : Option Value → Shared → Prop} (hh : A.handled = none) (D : ZipApart z TI TO i1 i2 l1 l2)
    (hz : ZnSt s.heap z TI TO) (hTI : IsPair s.heap TI (.ref i1) (.ref i2)) (hTO : IsPair s.heap TO a b)
    (h1 : SqI b1 s.heap i1 l1 k1) (h2 : SqI b2 s.heap i2 l2 k2) (hl1 : SqO b1 s.heap l1 xs) (hl2 : SqO b2 s.heap l2 ys) (hend : xs[k1]? = none ∨ ys[k2]? = none)
    (hQ : ∀ h', (∀ c o, c ≠ z → c ≠ TO → c ≠ i1 → c ≠ i2 → s.heap.get? c = some o → h'.get? c = some o) → Q none { s with heap := h' }) : wpAny (model prog w) A (pyNext (.ref z)) Q E s := by
  obtain ⟨f0, f, hz, ht⟩ := hz
  have hT : s.TypeIs (.ref z) "zip" := ⟨_, hz, rfl⟩
  unfold pyNext
  refine wpAny_bind (wpAny_attempt (wpAny_callSpecial?_slot (name := Str.ofString "__next__") hT F.slot_zip_next
    (wpAny_call_entry F.slot_zip_next hT F.entry_zip_next ?_ (F.args_zip_next_1 _))))
  have fr : (f0 = .none ∨ ∃ T : Addr, f0 = rawInt T ∧ s.heap.get? T = none) ∨ ∃ (T : Addr) (oT : Obj), f0 = rawInt T ∧ s.heap.get? T = some oT := by
    rcases ht with h | ⟨T, h⟩
    · exact .inl (.inl h)
    · cases e : s.heap.get? T with
      | none => exact .inl (.inr ⟨T, h, e⟩)
      | some oT => exact .inr ⟨T, oT, h, e⟩
  rcases fr with fr | ⟨T, oT, rfl, hTo⟩
  · refine zn_end_free hh D hz fr hTI hTO h1 h2 hl1 hl2 hend fun h' e hk he => ?_
    obtain ⟨o, ho, hc⟩ := he
    refine wpAny_bind (wpAny_isInstance (T := "StopIteration") (b := true) ⟨o, ho, hc⟩ isSubtype_stop ?_)
    exact wpAny_pure (hQ _ hk)
  · refine zn_end_held hh D hz hTo hTI h1 h2 hl1 hl2 hend fun h' e hk he => ?_
    obtain ⟨o, ho, hc⟩ := he
    refine wpAny_bind (wpAny_isInstance (T := "StopIteration") (b := true) ⟨o, ho, hc⟩ isSubtype_stop ?_)
    exact wpAny_pure (hQ _ fun c o n1 _ n3 n4 e => hk c o n1 n3 n4 e)
end
end Pj

set_option Elab.async false
set_option linter.all false
set_option maxRecDepth 100000
set_option maxHeartbeats 1000000
namespace Pj
open PySem PySem.Spec PyProof.Rows L2
theorem pyIter_zn {prog : Program} {w : World} {A : Around} {E : Value → Shared → Prop} {s : Shared} {z TI TO : Addr} {f0 : Value} {f : Bool} {Q : Value → Shared → Prop} (hz : IsZ s.heap z TI TO f0 f) (h : Q (.ref z) s) : wpAny (model prog w) A (pyIter (.ref z)) Q E s := by
  have hT : s.TypeIs (.ref z) "zip" := ⟨_, hz, rfl⟩
  refine wpAny_pyIter_slot hT F.slot_zip_iter (wpAny_call_entry F.slot_zip_iter hT F.entry_zip_iter ?_ (F.args_zip_iter_1 _))
  show wpAny _ _ (ret (.ref z)) _ _ s
  exact wpAny_pure ⟨_, rfl, "zip", _, hT, F.slot_zip_next.lookup, h⟩
theorem turn_zn {P : Program} {w : World} {K : PySem.W.Frag} {b1 b2 : Bool} {x : Str} {xp : Pos} {a c z TI TO i1 i2 : Addr} (D : ZipApart z TI TO i1 i2 a c) :
    Turn P w K (.Name x xp) (Itzz b1 b2 K a c) [z, TI, TO, i1, i2] z (fun i h => ZnSt h z TI TO ∧ IsPair h TI (.ref i1) (.ref i2) ∧ (∃ x y, IsPair h TO x y) ∧ SqI b1 h i1 a i ∧ SqI b2 h i2 c i) where
  mem := by simp
  obj := fun i h st d hd => by
    obtain ⟨hz, hTI, ⟨x, y, hTO⟩, h1, h2⟩ := st
    have e' : d = z ∨ d = TI ∨ d = TO ∨ d = i1 ∨ d = i2 := by simpa using hd
    rcases e' with q | q | q | q | q
    · rw [q]
      obtain ⟨o, e, _, v⟩ := hz.get
      exact ⟨o, e, v⟩
    · rw [q]; exact ⟨_, hTI, fun v q => nomatch q⟩
    · rw [q]; exact ⟨_, hTO, fun v q => nomatch q⟩
    · rw [q]; exact h1.obj
    · rw [q]; exact h2.obj
  keep := fun i h h' st k => by
    obtain ⟨⟨f0, f, hz, hf⟩, hTI, ⟨x, y, hTO⟩, h1, h2⟩ := st
    exact ⟨⟨f0, f, k z (by simp) _ hz, hf⟩, k TI (by simp) _ hTI, ⟨x, y, k TO (by simp) _ hTO⟩, h1.at fun o q => k i1 (by simp) o q, h2.at fun o q => k i2 (by simp) o q⟩
  item := by
    intro X hP hw hK hc i pins s σ H E I hf st hg
    subst hP hw hK
    obtain ⟨hz, hTI, ⟨x0, y0, hTO⟩, h1, h2⟩ := st
    obtain ⟨xs, ys, x, y, hqx, hqy, hx, hy⟩ := hg
    obtain ⟨its, rv, p⟩ := sqB_get I hqx
    obtain ⟨its2, rv2, p2⟩ := sqB_get I hqy
    obtain ⟨u, hu, ru⟩ := rv.get hx
    obtain ⟨u2, hu2, ru2⟩ := rv2.get hy
    have hzl : z < s.heap.objs.size := by
      obtain ⟨o, e, _⟩ := hz.get
      exact Heap.lt_size e
    refine pyNext_zn_item D hz hTI hTO h1 h2 p p2 (x := u) (y := u2) (by simpa using hu) (by simpa using hu2) fun h' z' TO' h1' h2' hT hsz hk => ?_
    refine ⟨_, rfl, wpAny_pure ?_⟩
    have new : ObjOk X.prog X.w (upd H s.heap.objs.size (.tup [x, y])) h' s.heap.objs.size (.tup [x, y]) :=
      ⟨by show 2 ≤ sizeLine; decide, [u, u2], .cons ru (.cons ru2 .nil), ⟨_, hT, rfl, _, rfl⟩⟩
    have I1 : Inv X pins σ (upd H s.heap.objs.size (.tup [x, y])) { s with heap := h' } :=
      I.turnedNew (t' := s.toks) (ch := [z, TI, TO, i1, i2]) (fun c o hb q => hk c o (fun q' => hb (by simp [q'])) (fun q' => hb (by simp [q'])) (fun q' => hb (by simp [q'])) (fun q' => hb (by simp [q'])) q) hf (Nat.le_refl _) new
    refine ⟨.ref s.heap.objs.size, _, I1, rfl, ⟨_, x, y, rfl, I.hok.fresh (Nat.le_refl _), rfl, fun l hl => by rw [sqB_inj I hl hqx]; exact hx, fun l hl => by rw [sqB_inj I hl hqy]; exact hy⟩, ⟨z', hk _ _ D.TIz D.TITO D.TIi1 D.TIi2 hTI, TO', h1', h2'⟩, fun c hcm => ?_⟩
    have hlt : c < s.heap.objs.size := by
      have e' : c = z ∨ c = TI ∨ c = TO ∨ c = i1 ∨ c = i2 := by simpa using hcm
      rcases e' with q | q | q | q | q
      · rw [q]; exact hzl
      · rw [q]; exact Heap.lt_size hTI
      · rw [q]; exact Heap.lt_size hTO
      · rw [q]; exact h1.lt
      · rw [q]; exact h2.lt
    rw [upd_ne (Nat.ne_of_lt hlt)]
    exact (hf c hcm).1
  done := by
    intro X hP hw hK hc i pins s σ H E I hf st hg
    subst hP hw hK
    obtain ⟨hz, hTI, ⟨x0, y0, hTO⟩, h1, h2⟩ := st
    obtain ⟨xs, ys, hqx, hqy, hend⟩ := hg
    obtain ⟨its, rv, p⟩ := sqB_get I hqx
    obtain ⟨its2, rv2, p2⟩ := sqB_get I hqy
    have l1 := rv.length
    have l2 := rv2.length
    have he : its.toArray[i]? = none ∨ its2.toArray[i]? = none := by
      rcases hend with q | q
      · exact .inl (by simp; omega)
      · exact .inr (by simp; omega)
    exact pyNext_zn_end (I.ok.hd hc) D hz hTI hTO h1 h2 p p2 he fun h' hk => ⟨rfl, I.turnedL (t' := s.toks) (ch := [z, TI, TO, i1, i2]) (fun c o hb q =>
      hk c o (fun q' => hb (by simp [q'])) (fun q' => hb (by simp [q'])) (fun q' => hb (by simp [q'])) (fun q' => hb (by simp [q'])) q) hf⟩
  self := fun A i s Q E st h => by
    obtain ⟨f0, f, hz, _⟩ := st.1
    exact pyIter_zn hz h
theorem pi_zn {X : Cx} {e e2 : Expr} {ta : TA} {p pos xp : Pos} {x : Str} (hg : Gl X "zip") (hm : X.mg "zip" = none) (ha : PA X [e, e2] ta)
    (hs : starEach [e, e2] X.env = (false, eval e X.env) :: starEach [e2] X.env := by rfl) (hpl : (backTo pos (starEach [e2] X.env)).any (·.1) = false := by rfl) :
    PI X (.Name x xp) (.Call (.Name "zip" p) [e, e2] [] pos) (iZz X.K ta) := by
  refine ⟨fun pins s σ H R I h => ?_⟩
  refine Call_ (ld_blt I hg hm PyProof.Rows.boot_zip (PyProof.Rows.callWith_type1 (thn (ha.run pos pins s σ H _ I h) fun us s1 ⟨vs, H1, I1, r1, q1⟩ => ?_) hs hpl))
  obtain ⟨b1, b2, a, c, xs, ys, ex, hqx, hqy, q⟩ := q1
  subst ex
  cases r1 with
  | cons r rr =>
    cases rr with
    | cons r' rr =>
      cases rr
      cases r
      cases r'
      obtain ⟨its, rv, p1⟩ := sqB_get I1 hqx
      obtain ⟨its2, rv2, p2⟩ := sqB_get I1 hqy
      refine call_zz p1 p2 fun h' hz hTI hTO h1 h2 hk => wpAny_pyIter_zip hz ?_
      have I2 : Inv X pins σ H1 { s1 with heap := h' } := I1.kept (t' := s1.toks) hk
      refine ⟨s1.heap.objs.size + 4, [s1.heap.objs.size + 4, s1.heap.objs.size + 2, s1.heap.objs.size + 3, s1.heap.objs.size, s1.heap.objs.size + 1], _, _, H1, rfl, I2, turn_zn (PySem.W.ktu_apart s1.heap.objs.size a c p1.lt p2.lt), ⟨⟨_, _, hz, .inl rfl⟩, hTI, ⟨_, _, hTO⟩, h1, h2⟩, fun d hd => ?_, q⟩
      have hle : s1.heap.objs.size ≤ d := by
        have e' : d = s1.heap.objs.size + 4 ∨ d = s1.heap.objs.size + 2 ∨ d = s1.heap.objs.size + 3 ∨ d = s1.heap.objs.size ∨ d = s1.heap.objs.size + 1 := by simpa using hd
        rcases e' with z | z | z | z | z <;> (rw [z]; first | exact Nat.le_refl _ | exact Nat.le_add_right _ _)
      exact I1.fpOk hle (I1.hok.fresh hle)
theorem zipD_map {α β : Type} (f : α → PD) (g : β → PD) : ∀ (as : List α) (bs : List β), zipD (as.map f) (bs.map g) = (as.zip bs).map fun p => .tuple [f p.1, g p.2]
  | [], _ => by simp [zipD]
  | _ :: _, [] => by simp [zipD]
  | a :: as, b :: bs => by
    have := zipD_map f g as bs
    unfold zipD at this ⊢
    rw [List.map_cons, List.map_cons, List.zipWith_cons_cons, this]
    rfl
theorem zip_zw {α β γ : Type} (f : α → β → γ) : ∀ (as : List α) (bs : List β), (as.zip bs).map (fun p => f p.1 p.2) = List.zipWith f as bs
  | [], _ => by simp
  | _ :: _, [] => by simp
  | a :: as, b :: bs => by
    rw [List.zip_cons_cons, List.map_cons, List.zipWith_cons_cons, zip_zw f as bs]
section
variable {X : Cx} {W : WX} {ρ ρ1 ρ2 : En} {e e2 : Expr} {x y : PD} {ds es : List PD} {p pos xp : Pos} {n : Str}
/-- zip with a plain name as the target -/
theorem it_zipN (ha : EJ X W e ρ (.ok ρ1 (.va x))) (hb : EJ X W e2 ρ1 (.ok ρ2 (.va y))) (hm : X.mg "zip" = none) (hx : itemsOf x = some ds := by rfl) (hy : itemsOf y = some es := by rfl) (hg : Gl X "zip" := by rfl)
    (hs : starEach [e, e2] X.env = (false, eval e X.env) :: starEach [e2] X.env := by rfl) (hs2 : starEach [e2] X.env = (false, eval e2 X.env) :: starEach [] X.env := by rfl) (hpl : (backTo pos (starEach [e2] X.env)).any (·.1) = false := by rfl) :
    ItJ X W (.Name n xp) (.Call (.Name "zip" p) [e, e2] [] pos) ρ ρ2 (zipD ds es) := by
  obtain ⟨t, h1, h2⟩ := aj_cons ha (aj_cons hb aj_nil hs2) hs
  refine ⟨_, pi_zn hg hm h1 hs hpl, fun F H σ R RR q => h2 F H σ _ RR fun F1 H1 vs x1 R1 q1 => ?_⟩
  match vs, q1 with
  | [u, v], .cons c1 (.cons c2 .nil) =>
    obtain ⟨b1, a, xs, rfl, s1, d1⟩ := dp_items c1 hx
    obtain ⟨b2, c, ys, rfl, s2, d2⟩ := dp_items c2 hy
    exact ⟨b1, b2, a, c, xs, ys, rfl, s1.mono R1.fh, s2.mono R1.fh, q F1 H1 _ x1 R1 (wk_zz s1 s2 d1 d2)⟩
end
end Pj

set_option Elab.async false
set_option linter.all false
set_option maxRecDepth 100000
set_option maxHeartbeats 1000000
namespace Pj
open PySem PySem.Spec PyProof.Rows L2
open AutoSeq1 (wpAny_loadPart')
theorem draws_sq {prog : Program} {w : World} {A : Around} {b : Bool} (hh : A.handled = none) (it l : Addr) (hne : l ≠ it) (items : Array Value) :
    Draws prog w A it [it, l] items.size (fun i v => items[i]? = some v) (fun i h => SqI b h it l i ∧ SqO b h l items) where
  live := fun _ _ st => let ⟨o, ho, _⟩ := st.1.obj; ⟨o, ho⟩
  frame := fun _ _ _ st hk => by
    refine ⟨st.1.at fun o e => hk it (by simp) o e, ?_⟩
    obtain ⟨q1, q2⟩ := st.2
    exact ⟨fun x => (q1 x).at fun o e => hk l (by simp) o e, fun x => (q2 x).at fun o e => hk l (by simp) o e⟩
  item := fun i s Q E hi st hQ => by
    refine sq_item st.1 st.2 (x := items[i]) (by simp [hi]) fun h' hit' hs' => ?_
    exact hQ _ h' s.toks (by simp [hi]) ⟨hit', st.2.ext hs'.extBut hne⟩ hs'
  done := fun s Q E st hE => sq_end hh st.1 st.2 (by simp) hE
set_option maxHeartbeats 4000000 in
theorem meets_en_newT (l : Addr) (items : Array Value) (n : Nat) (dct : Option Addr) (sl : Array (Option Value)) :
    Meets (Builtin.«enumerate.__new__» ⟨[.type "enumerate", .ref l], []⟩) (fun _ R s => s.heap.get? l = some { cls := .type "tuple", dict := dct, data := .seq items n, slots := sl } ∧
      R (.ok (.ret (.ref (s.heap.push { cls := .type "tuple_iterator", data := .fields #[.ref l, .int 0 0] }).objs.size)))
        { s with heap := (s.heap.push { cls := .type "tuple_iterator", data := .fields #[.ref l, .int 0 0] }).push { cls := .type "enumerate", data := .fields #[.none, .bool false, .ref s.heap.objs.size, rawInt 0, .none, .none] } }) :=
  .of_wp fun prog w A R s h => by
    obtain ⟨hp, g, d, tk, os⟩ := s
    obtain ⟨hl, h⟩ := h
    have hsub := sub_enumerate
    have hL : Heap.IsTuple (Shared.heap ⟨hp, g, d, tk, os⟩) l items := ⟨_, hl, rfl, n, rfl⟩
    wp_walk using wpAny_loadPart' hl
    refine wpAny_stack_any fun st => wpAny_pure ?_
    split
    · rename_i c _ _ _ _ _
      cases (c == Value.type "enumerate")
      · wp_walk using wpAny_loadPart' hl, wpAny_pyIter_tuple hL
        exact ⟨_, rfl, h⟩
      · wp_walk using wpAny_loadPart' hl, wpAny_pyIter_tuple hL
        exact ⟨_, rfl, h⟩
    · wp_walk using wpAny_loadPart' hl, wpAny_pyIter_tuple hL
      exact ⟨_, rfl, h⟩
section
variable {prog : Program} {w : World} {A : Around} {E : Value → Shared → Prop} {s : Shared}
theorem call_en_tuple {l : Addr} {items : Array Value} {Q : Value → Shared → Prop} (hL : s.heap.IsTuple l items)
    (h : ∀ h', IsEnum h' (s.heap.objs.size + 1) s.heap.objs.size 0 .none → h'.IsTupleIter s.heap.objs.size l 0 → (∀ b o, s.heap.get? b = some o → h'.get? b = some o) → Q (.ref (s.heap.objs.size + 1)) { s with heap := h' }) :
    wpAny (model prog w) A (call (.type "enumerate") [.ref l]) Q E s := by
  obtain ⟨⟨c, dct, dt, sl⟩, hl, hc, n, hd⟩ := hL
  replace hc : c = .type "tuple" := hc
  replace hd : dt = .seq items n := hd
  subst hc hd
  refine callType_new F.called_enumerate (by decide) (F.typeCall_enumerate_1 _) (F.newCall_enumerate_1 _) (fun obj => F.args_object_init_2 obj _) F.entry_enumerate_new
    (meets_en_newT l items n dct sl) ⟨hl, ?_⟩
  have hz : (s.heap.push { cls := .type "tuple_iterator", data := .fields #[.ref l, .int 0 0] }).objs.size = s.heap.objs.size + 1 := Heap.size_push ..
  show _ ∧ _
  rw [hz]
  have he := Heap.get?_push_size (s.heap.push { cls := .type "tuple_iterator", data := .fields #[.ref l, .int 0 0] }) (o := { cls := .type "enumerate", data := .fields #[.none, .bool false, .ref s.heap.objs.size, rawInt 0, .none, .none] }) rfl
  rw [hz] at he
  exact ⟨⟨_, he, rfl⟩, h _ he ⟨_, Heap.get?_push_of_some _ (Heap.get?_push_size _ rfl), rfl, rfl⟩ fun b o x => Heap.get?_push_of_some _ (Heap.get?_push_of_some _ x)⟩
theorem call_en {b : Bool} {l : Addr} {items : Array Value} {Q : Value → Shared → Prop} (hL : SqO b s.heap l items)
    (h : ∀ h', IsEnum h' (s.heap.objs.size + 1) s.heap.objs.size 0 .none → SqI b h' s.heap.objs.size l 0 → (∀ b o, s.heap.get? b = some o → h'.get? b = some o) → Q (.ref (s.heap.objs.size + 1)) { s with heap := h' }) :
    wpAny (model prog w) A (call (.type "enumerate") [.ref l]) Q E s := by
  cases b with
  | true => exact call_en_tuple (hL.1 rfl) fun h' a c d => h h' a ⟨fun _ => c, fun z => nomatch z⟩ d
  | false => exact call_enumerate_list (hL.2 rfl) fun h' a c _ d => h h' a ⟨fun z => (nomatch z), fun _ => c⟩ d
end
def Iten (b : Bool) (K : PySem.W.Frag) (a : Addr) : It :=
  ⟨fun i H => ∃ (xs : List V) (x : V), SqB b K H a xs ∧ xs[i]? = some x, fun i H v H' => ∃ T x, v = .ref T ∧ H T = none ∧ H' = upd H T (.tup [.int (i : Nat), x]) ∧ ∀ xs, SqB b K H a xs → xs[i]? = some x, fun i H => ∃ xs : List V, SqB b K H a xs ∧ xs.length = i⟩
theorem turn_en {P : Program} {w : World} {K : PySem.W.Frag} {b : Bool} {elts : List Expr} {kk : Nat} {tpos : Pos} (a e it : Addr) (hne : e ≠ it) (ha : a ≠ it) (hae : a ≠ e) :
    Turn P w K (.Tuple elts kk tpos) (Iten b K a) [e, it] e (fun i h => (∃ old, IsEnum h e it ((i : Nat) : Int) old) ∧ SqI b h it a i) where
  mem := by simp
  obj := fun i h st c hc => by
    obtain ⟨⟨old, he⟩, h1⟩ := st
    have e' : c = e ∨ c = it := by simpa using hc
    rcases e' with z | z
    · rw [z]; exact ⟨_, he, fun v q => nomatch q⟩
    · rw [z]; exact h1.obj
  keep := fun i h h' st k => let ⟨⟨old, he⟩, hi⟩ := st; ⟨⟨old, k e (by simp) _ he⟩, hi.at fun o q => k it (by simp) o q⟩
  item := by
    intro X hP hw hK hc i pins s σ H E I hf st hg
    subst hP hw hK
    obtain ⟨⟨old, he⟩, hit⟩ := st
    obtain ⟨xs, x, hq, hx⟩ := hg
    obtain ⟨its, rv, p⟩ := sqB_get I hq
    obtain ⟨u, hu, ru⟩ := rv.get hx
    have hel : e < s.heap.objs.size := Heap.lt_size he
    have hil : it < s.heap.objs.size := hit.lt
    have hlt : i < its.toArray.size := by
      have := (List.getElem?_eq_some_iff.mp hu).1
      simpa using this
    have DR := draws_sq (prog := X.prog) (w := X.w) (A := X.A.in1) (b := b) (show X.A.in1.handled = none from I.ok.hd hc) it a ha its.toArray
    refine wpAny_pyNext_enum_itemD DR he ⟨hit, p⟩ hlt hne (by simp; exact ⟨hne, Ne.symm hae⟩) fun u' h' tk hP ho hs' hT hsz hk => ?_
    have eu : u' = u := by
      have : its.toArray[i]? = some u := by simpa using hu
      rw [this] at hP
      exact (Option.some.inj hP).symm
    subst eu
    refine ⟨_, rfl, wpAny_letOwnedTupleGo_enum (s := { s with heap := h', toks := tk + 1 }) ho fun h'' he' sb => ?_⟩
    have hT2 : h''.get? s.heap.objs.size = some { cls := .type "tuple", data := .seq #[.int i tk, u'] } := (sb.2 _ (Nat.ne_of_gt hel)).trans hT
    have new : ObjOk X.prog X.w (upd H s.heap.objs.size (.tup [.int (i : Nat), x])) h'' s.heap.objs.size (.tup [.int (i : Nat), x]) :=
      ⟨by show 2 ≤ sizeLine; decide, [.int i tk, u'], .cons ⟨_, rfl⟩ (.cons ru .nil), ⟨_, hT2, rfl, _, rfl⟩⟩
    have I1 : Inv X pins σ (upd H s.heap.objs.size (.tup [.int (i : Nat), x])) { s with heap := h'', toks := tk + 1 } :=
      I.turnedNew (ch := [e, it]) (fun c ob hb q => (sb.2 c (fun z => hb (by simp [z]))).trans (hk c ob (fun z => hb (by simp [z])) (fun z => hb (by simp [z])) q)) hf (Nat.le_refl _) new
    refine ⟨.ref s.heap.objs.size, _, I1, rfl, ⟨_, x, rfl, I.hok.fresh (Nat.le_refl _), rfl, fun ys hy => by rw [sqB_inj I hy hq]; exact hx⟩, ⟨⟨u', ?_⟩, hs'.1.at fun o q => (sb.2 it (Ne.symm hne)).trans q⟩, fun c hcm => ?_⟩
    · have e1 : ((i + 1 : Nat) : Int) = (i : Int) + 1 := by omega
      rw [e1]; exact he'
    · have hlt : c < s.heap.objs.size := by
        have e' : c = e ∨ c = it := by simpa using hcm
        rcases e' with z | z
        · rw [z]; exact hel
        · rw [z]; exact hil
      rw [upd_ne (Nat.ne_of_lt hlt)]
      exact (hf c hcm).1
  done := by
    intro X hP hw hK hc i pins s σ H E I hf st hg
    subst hP hw hK
    obtain ⟨⟨old, he⟩, hit⟩ := st
    obtain ⟨xs, hq, hx⟩ := hg
    obtain ⟨its, rv, p⟩ := sqB_get I hq
    obtain ⟨f0, f1, f2, f3, f4, f5⟩ := hf it (by simp)
    have hl := rv.length
    have hi : its.toArray.size = i := by rw [List.size_toArray, ← hl, hx]
    have DR := draws_sq (prog := X.prog) (w := X.w) (A := X.A.in1) (b := b) (show X.A.in1.handled = none from I.ok.hd hc) it a ha its.toArray
    refine wpAny_pyNext_enum_endD DR he (by rw [hi]; exact ⟨hit, p⟩) fun h' eb => ⟨rfl, I.turned (t' := s.toks) (fun c o hb q => eb c o hb q) f0 f1 f3 f4 f5⟩
  self := fun A i s Q E st h => let ⟨⟨_, he⟩, _⟩ := st; wpAny_pyIter_enum he h
def iEn (K : PySem.W.Frag) (ta : TA) : TI := fun σ H R => ta σ H fun vs H1 => ∃ (b : Bool) (a : Addr) (xs : List V), vs = [.ref a] ∧ SqB b K H1 a xs ∧ R (Iten b K a) H1
theorem pi_en {X : Cx} {e : Expr} {ta : TA} {p pos tpos : Pos} {elts : List Expr} {kk : Nat} (hg : Gl X "enumerate") (hm : X.mg "enumerate" = none) (ha : PA X [e] ta) (hs : starEach [e] X.env = [(false, eval e X.env)] := by rfl) :
    PI X (.Tuple elts kk tpos) (.Call (.Name "enumerate" p) [e] [] pos) (iEn X.K ta) := by
  refine ⟨fun pins s σ H R I h => ?_⟩
  refine Call_ (ld_blt I hg hm boot_enumerate (PyProof.Rows.callWith_type1 (thn (ha.run pos pins s σ H _ I h) fun us s1 ⟨vs, H1, I1, r1, q1⟩ => ?_) hs rfl))
  obtain ⟨b, a, xs, ex, hq, q⟩ := q1
  subst ex
  cases r1 with
  | cons r rr =>
    cases rr
    cases r
    obtain ⟨its, rv, p'⟩ := sqB_get I1 hq
    have la := p'.lt
    refine call_en p' fun h' he hit hk => wpAny_pyIter_enum he ?_
    have I2 : Inv X pins σ H1 { s1 with heap := h' } := I1.kept (t' := s1.toks) hk
    refine ⟨s1.heap.objs.size + 1, [s1.heap.objs.size + 1, s1.heap.objs.size], _, _, H1, rfl, I2, turn_en a (s1.heap.objs.size + 1) s1.heap.objs.size (Nat.succ_ne_self _) (Nat.ne_of_lt la) (Nat.ne_of_lt (Nat.lt_succ_of_lt la)), ⟨⟨.none, he⟩, hit⟩, fun c hc => ?_, q⟩
    have hle : s1.heap.objs.size ≤ c := by
      have e' : c = s1.heap.objs.size + 1 ∨ c = s1.heap.objs.size := by simpa using hc
      rcases e' with z | z <;> (rw [z]; first | exact Nat.le_refl _ | exact Nat.le_add_right _ _)
    exact I1.fpOk hle (I1.hok.fresh hle)
def enD : Nat → List PD → List PD
  | _, [] => []
  | i, d :: ds => .tuple [.int (i : Nat), d] :: enD (i + 1) ds
theorem enD_get : ∀ (ds : List PD) (k i : Nat), (enD k ds)[i]? = (ds[i]?).map fun d => .tuple [.int ((k + i : Nat) : Int), d]
  | [], k, i => by simp [enD]
  | d :: ds, k, 0 => rfl
  | d :: ds, k, i + 1 => by
    unfold enD
    rw [List.getElem?_cons_succ, List.getElem?_cons_succ, enD_get ds (k + 1) i, show k + 1 + i = k + (i + 1) by omega]
theorem enD_len : ∀ (ds : List PD) (k : Nat), (enD k ds).length = ds.length
  | [], _ => rfl
  | d :: ds, k => by unfold enD; rw [List.length_cons, List.length_cons, enD_len ds (k + 1)]
theorem enD_map {α : Type} (f : α → PD) : ∀ (l : List α) (k : Nat), enD k (l.map f) = (l.zipIdx k).map fun p => .tuple [.int ((p.2 : Nat) : Int), f p.1]
  | [], _ => rfl
  | a :: l, k => by
    rw [List.map_cons, List.zipIdx_cons, List.map_cons]
    unfold enD
    rw [enD_map f l (k + 1)]
section
variable {X : Cx} {W : WX} {ρ ρ1 ρ2 : En} {e e2 : Expr} {x y : PD} {ds es : List PD} {p pos tpos : Pos} {elts : List Expr} {kk : Nat}
theorem it_en (ha : EJ X W e ρ (.ok ρ1 (.va x))) (hm : X.mg "enumerate" = none) (hx : itemsOf x = some ds := by rfl) (hg : Gl X "enumerate" := by rfl)
    (hs : starEach [e] X.env = [(false, eval e X.env)] := by rfl) :
    ItJ X W (.Tuple elts kk tpos) (.Call (.Name "enumerate" p) [e] [] pos) ρ ρ1 (enD 0 ds) := by
  obtain ⟨t, h1, h2⟩ := aj_cons ha aj_nil hs
  refine ⟨_, pi_en hg hm h1 hs, fun F H σ R RR q => h2 F H σ _ RR fun F1 H1 vs x1 R1 q1 => ?_⟩
  match vs, q1 with
  | [u], .cons c1 .nil =>
    obtain ⟨b, a, xs, rfl, s1, d1⟩ := dp_items c1 hx
    have l1 := DpAll.len d1
    refine ⟨b, a, xs, rfl, s1.mono R1.fh, q F1 H1 _ x1 R1 ⟨⟨fun H => SqB b X.K H a xs, fun F H e1 e2 => s1.mono (e1.trans e2), fun i H hi g => ?_, fun H g => ?_, fun i d F H x H' hd e1 e2 yl => ?_⟩⟩⟩
    · rw [enD_len] at hi
      exact ⟨xs, xs[i]'(by omega), g, List.getElem?_eq_getElem (by omega)⟩
    · rw [enD_len]
      exact ⟨xs, g, by omega⟩
    · obtain ⟨T, u, rfl, hT, rfl, g1⟩ := yl
      have s1' := s1.mono (e1.trans e2)
      obtain ⟨da, k1, k2⟩ := DpAll.at d1 (g1 xs s1')
      rw [enD_get, k1, Nat.zero_add] at hd
      cases hd
      refine ⟨upd F T (.tup [.int (i : Nat), u]), Xt.frz e2 hT, ?_⟩
      have hF : F T = none := by
        cases hh : F T with
        | none => rfl
        | some o => have := e2 T o hh; rw [hT] at this; cases this
      exact .tup (.inl (.inl (upd_same ..))) (.cons (.int _) (.cons (Dp.mono k2 (e1.trans (same_upd hF))) .nil))
end
end Pj

set_option Elab.async false
set_option linter.all false
set_option maxRecDepth 100000
/-! Pi5: further operators, methods and calls in the layer. -/
namespace Pj
open PySem PySem.Spec PyProof.Rows L2
/-! ### lists + lists -/
section
variable {X : Cx} {K : PySem.W.Frag} {ds es : List PD} {d x y : PD} {k : Bool} {j : Int}
def rCatL (K : PySem.W.Frag) : R2 := fun x y H Q => ∃ a b xs ys, x = .ref a ∧ y = .ref b ∧ SqL K H a xs ∧ SqL K H b ys ∧ xs.length + ys.length ≤ sizeLine ∧ ∀ p, H p = none → Q (.ref p) (upd H p (.lst (xs ++ ys)))
theorem op_catL : OpR X (binaryOp .Add) (rCatL X.K) := by
  intro pins s σ H x y v u Q I rx ry h
  obtain ⟨a, b, xs, ys, rfl, rfl, ha, hb, hz, q⟩ := h
  cases rx
  cases ry
  obtain ⟨its, r1, p1, _⟩ := I.list ha
  obtain ⟨its2, r2, p2, _⟩ := I.list hb
  obtain ⟨⟨cls, dd, data, sl⟩, ho, hc, n, hd⟩ := p1.isList
  obtain ⟨⟨cls2, dd2, data2, sl2⟩, ho2, hc2, n2, hd2⟩ := p2.isList
  simp only at hc hd hc2 hd2
  subst hc hd hc2 hd2
  have ea : its.toArray ++ its2.toArray = (its ++ its2).toArray := by simp
  refine concat_meets ⟨_, ho, rfl⟩ ⟨_, ho2, rfl⟩ noFill_list_add seq_list_add PySem.F.slot_list_add PySem.F.entry_list_add (PySem.F.args_list_add_2 _ _) (list_addW a b its.toArray its2.toArray n n2 dd dd2 sl sl2 (by rw [List.size_toArray, List.size_toArray, ← r1.length, ← r2.length]; exact hz)) ⟨ho, ho2, ?_⟩
  rw [ea]
  exact ⟨.ref _, _, I.lnew (t' := s.toks) (r1.append r2) (by rw [List.length_append]; exact hz), rfl, q _ I.fresh⟩
theorem p2_catL (hz : ds.length + es.length ≤ sizeLine) : P2 K (rCatL K) (.list ds) (.list es) (.ow (.lst (ds ++ es))) := fun F H vx vy Q e hx hy q => by
  cases hx with
  | @lst a vs _ h1 h2 =>
    cases hy with
    | @lst b ws _ g1 g2 =>
      refine ⟨a, b, vs, ws, rfl, rfl, Same.seq e h1, Same.seq e g1, by rw [DpAll.len h2, DpAll.len g2]; exact hz, fun p np => ?_⟩
      refine q _ _ _ (Xt.own e np) ?_
      have nf : F p = none := by
        cases hh : F p with
        | none => rfl
        | some o => have := e p o hh; rw [np] at this; cases this
      exact ⟨p, .lst (vs ++ ws), rfl, nf, upd_same, DpAll.append h2 g2, np⟩
theorem add_ll (h : ds.length + es.length ≤ sizeLine) : OpOk X .Add (.list ds) (.list es) (.ow (.lst (ds ++ es))) := ⟨_, op_catL, p2_catL h⟩
/-! ### x in a list, of any depth -/
theorem p2_inD (h1 : SeqAt.shaped d = true) (h2 : SeqAt.shaped (.list ds) = true) : P2 K (rInD K) d (.list ds) (.va (.bool (ds.any fun z => PyData.eqv z d))) := fun F H vx vy Q e hx hy q => ⟨d, ds, Dp.mono hx e, Dp.mono hy e, h1, h2, q F H _ (Xt.refl e) (.bl _)⟩
theorem p2_ninD (h1 : SeqAt.shaped d = true) (h2 : SeqAt.shaped (.list ds) = true) : P2 K (rNotInD K) d (.list ds) (.va (.bool (!ds.any fun z => PyData.eqv z d))) := fun F H vx vy Q e hx hy q => ⟨d, ds, Dp.mono hx e, Dp.mono hy e, h1, h2, q F H _ (Xt.refl e) (.bl _)⟩
end
section
variable {X : Cx} {W : WX} {lv : Nat} {a b c e e2 : Expr} {ρ ρ1 ρ2 : En} {ds es : List PD} {d x y : PD} {z : Rs} {k : Bool} {i j : Int} {pos p p2 p3 : Pos} {n : Str} {ns : List Int}
theorem Ok.u65 (C : Ok X W lv) : X.A.units + 65 < cLine := by have := C.room.un; omega
theorem tj_inD (C : Ok X W lv) (ha : EJ X W a ρ (.ok ρ1 (.va d))) (hb : EJ X W b ρ1 (.ok ρ2 (.va (.list ds)))) (hk : (ds.any fun y => PyData.eqv y d) = k := by rfl) (h1 : SeqAt.shaped d = true := by rfl) (h2 : SeqAt.shaped (.list ds) = true := by rfl) (hm : behindInMarks .In b = false := by rfl) : TJ X W (.Compare a [.In] [b] pos) ρ ρ2 k :=
  hk ▸ tj_cmp (op_inD C.u65) ha hb (p2_inD h1 h2) hm
theorem ej_inD (C : Ok X W lv) (ha : EJ X W a ρ (.ok ρ1 (.va d))) (hb : EJ X W b ρ1 (.ok ρ2 (.va (.list ds)))) (hk : (ds.any fun y => PyData.eqv y d) = k := by rfl) (h1 : SeqAt.shaped d = true := by rfl) (h2 : SeqAt.shaped (.list ds) = true := by rfl) (hm : behindInMarks .In b = false := by rfl) : EJ X W (.Compare a [.In] [b] pos) ρ (.ok ρ2 (.va (.bool k))) :=
  hk ▸ ej_cmp (op_inD C.u65) ha hb (p2_inD h1 h2) hm
theorem tj_ninD (C : Ok X W lv) (ha : EJ X W a ρ (.ok ρ1 (.va d))) (hb : EJ X W b ρ1 (.ok ρ2 (.va (.list ds)))) (hk : (ds.any fun y => PyData.eqv y d) = k := by rfl) (h1 : SeqAt.shaped d = true := by rfl) (h2 : SeqAt.shaped (.list ds) = true := by rfl) (hm : behindInMarks .NotIn b = false := by rfl) : TJ X W (.Compare a [.NotIn] [b] pos) ρ ρ2 (!k) :=
  hk ▸ tj_cmp (op_notInD C.u65) ha hb (p2_ninD h1 h2) hm
/-! ### t * k, xs * k -/
theorem p2_repT {K : PySem.W.Frag} (h : ds ≠ []) (h1 : 2 ≤ j) (h2 : j ≤ 1000) (h3 : ds.length ≤ 1000) : P2 K (rRepT K) (.tuple ds) (.int j) (.va (.tuple (List.replicate j.toNat ds).flatten)) := fun F H vx vy Q e hx hy q => by
  cases hy
  cases hx with
  | @tup a vs _ g1 g2 =>
    have l := DpAll.len g2
    refine ⟨a, j, vs, rfl, rfl, Same.seqT e g1, fun z => ?_, h1, h2, by omega, fun p np => ?_⟩
    · subst z
      cases g2
      exact h rfl
    · refine q _ _ _ (Xt.frz e np) (.tup (SqT.of upd_same) (DpAll.mono ?_ (Xt.frz e np).ff))
      have : ∀ m : Nat, DpAll K F (List.replicate m vs).flatten (List.replicate m ds).flatten := fun m => by
        induction m with
        | zero => exact .nil
        | succ m ih =>
          rw [List.replicate_succ, List.replicate_succ, List.flatten_cons, List.flatten_cons]
          exact DpAll.append g2 ih
      exact this _
theorem mul_ti (h : ds ≠ []) (h1 : 2 ≤ j) (h2 : j ≤ 1000) (h3 : ds.length ≤ 1000) : OpOk X .Mult (.tuple ds) (.int j) (.va (.tuple (List.replicate j.toNat ds).flatten)) := ⟨_, op_repT, p2_repT h h1 h2 h3⟩
/-- (d,) * j -/
theorem mul_t1 (h1 : 2 ≤ j) (h2 : j ≤ 1000) : OpOk X .Mult (.tuple [d]) (.int j) (.va (.tuple (List.replicate j.toNat d))) := by
  have e : (List.replicate j.toNat [d]).flatten = List.replicate j.toNat d := by
    generalize j.toNat = m
    induction m with
    | zero => rfl
    | succ m ih => rw [List.replicate_succ, List.flatten_cons, ih]; rfl
  have := mul_ti (X := X) (ds := [d]) (j := j) (by simp) h1 h2 (by simp)
  rw [e] at this
  exact this
/-! ### len(set(xs)) of whole numbers -/
def distN (ns : List Int) : Nat := (firstMet (fun i => ns.getD i 0) ns.length).length
def tLenSetD (K : PySem.W.Frag) (ta : TE) : TE := fun σ H Q => ta σ H fun x H1 => ∃ (l : Addr) (ns : List Int), x = .ref l ∧ SqL K H1 l (ns.map V.int) ∧ ns.length ≤ 4000 ∧ Q (.int (distN ns : Nat)) H1
theorem pe_lenSetD {ta : TE} (hg : Gl X "len") (hm : X.mg "len" = none) (hg2 : Gl X "set") (hm2 : X.mg "set" = none) (ha : PE X a ta) (hc : X.calm = true)
    (na : starEach [a] X.env = (false, eval a X.env) :: starEach [] X.env := by rfl) : PE X (.Call (.Name "len" p) [.Call (.Name "set" p2) [a] [] p3] [] pos) (tLenSetD X.K ta) := by
  refine ⟨fun pins s σ H Q I h => ?_⟩
  refine Call_ (ld_blt I hg hm boot_len ?_)
  refine PyProof.Rows.callWith_builtin1 (PyProof.Rows.args_cons ?_ rfl) rfl rfl
  refine Call_ (ld_blt I hg2 hm2 boot_set ?_)
  refine PyProof.Rows.callWith_type1 (PyProof.Rows.args_cons (thn (ha.run pins s σ H _ I h) fun v s1 ⟨x, H1, I1, r1, q1⟩ => PyProof.Rows.args_nil ?_) na) na rfl
  obtain ⟨l, ns, rfl, hq, hl, q1⟩ := q1
  cases r1
  obtain ⟨its, r, pl, hz⟩ := I1.list hq
  have hlen : its.toArray.size = ns.length := by rw [List.size_toArray, ← r.length, List.length_map]
  refine call_set_list (I1.ok.hd hc) pl.isList (by simpa using RZ.intsAre_vals r) (by rw [hlen]; unfold scanBound; omega) fun h' tk hS hk => ?_
  refine PyProof.Rows.args_nil ?_
  rw [hlen] at hS
  obtain ⟨o, es, ep, t, ho, hex, hd, _, _, _, hf, hn⟩ := hS
  have I2 : Inv X pins σ H1 { s1 with heap := h', toks := tk } := I1.kept fun b o e => hk b o (Heap.lt_size e) e
  have hle := firstMet_length_le (fun i => ns.getD i 0) ns.length
  exact call_len_set ho hex hd hf (by rw [hn] <;> omega) ⟨.int (distN ns), H1, I2.tok _, ⟨_, by rw [hn]; rfl⟩, q1⟩
theorem ej_lenSet (C : Ok X W lv) (hm : X.mg "len" = none) (hm2 : X.mg "set" = none) (ha : EJ X W a ρ (.ok ρ1 (.va (.list (ns.map .int))))) (hl : ns.length ≤ 4000) (hg : Gl X "len" := by rfl) (hg2 : Gl X "set" := by rfl)
    (na : starEach [a] X.env = (false, eval a X.env) :: starEach [] X.env := by rfl) : EJ X W (.Call (.Name "len" p) [.Call (.Name "set" p2) [a] [] p3] [] pos) ρ (.ok ρ1 (.va (.int (distN ns : Nat)))) := by
  obtain ⟨t, h1, h2⟩ := ha
  refine ⟨_, pe_lenSetD hg hm hg2 hm2 h1 C.calm na, fun F H σ Q R q => h2 F H σ _ R fun F1 H1 v x1 R1 q1 => ?_⟩
  cases q1.1 with
  | @lst l vs _ s1 d1 =>
    have e := DpAll.ints d1
    subst e
    exact ⟨l, ns, rfl, Same.seq R1.fh s1, hl, (q.pull x1).fin R1 (Xt.refl R1.fh) (.int _)⟩
theorem dist_first (f : Nat → Int) : ∀ m : Nat, ∀ x ∈ firstMet f m, ∃ i < m, f i = x
  | 0, x, h => by rw [firstMet_zero] at h; cases h
  | m + 1, x, h => by
    rw [firstMet_succ] at h
    unfold step_dedup at h
    split at h
    · obtain ⟨i, h1, h2⟩ := dist_first f m x h
      exact ⟨i, by omega, h2⟩
    · rcases List.mem_append.mp h with h | h
      · obtain ⟨i, h1, h2⟩ := dist_first f m x h
        exact ⟨i, by omega, h2⟩
      · exact ⟨m, by omega, (List.mem_singleton.mp h).symm⟩
theorem first_mem (f : Nat → Int) : ∀ m i : Nat, i < m → f i ∈ firstMet f m
  | m + 1, i, h => by
    rw [firstMet_succ]
    unfold step_dedup
    by_cases e : i = m
    · subst e
      split
      · rename_i hb
        obtain ⟨y, hy, ey⟩ := List.any_eq_true.mp hb
        rw [beq_iff_eq] at ey
        exact ey ▸ hy
      · exact List.mem_append_right _ (List.mem_singleton.mpr rfl)
    · have := first_mem f m i (by omega)
      split
      · exact this
      · exact List.mem_append_left _ this
/-- one value alone -/
theorem dist_one {ns : List Int} {n : Int} (h : n ∈ ns) : (distN ns = 1) ↔ ∀ m ∈ ns, m = n := by
  obtain ⟨i, hi, e⟩ := List.getElem_of_mem h
  have fi : ∀ j (hj : j < ns.length), ns.getD j 0 = ns[j] := fun j hj => by rw [List.getD_eq_getElem?_getD, List.getElem?_eq_getElem hj]; rfl
  unfold distN
  constructor
  · intro h1 m hm
    obtain ⟨j, hj, ej⟩ := List.getElem_of_mem hm
    have a := first_mem (fun i => ns.getD i 0) ns.length i hi
    have b := first_mem (fun i => ns.getD i 0) ns.length j hj
    rw [fi i hi, e] at a
    rw [fi j hj, ej] at b
    match hh : firstMet (fun i => ns.getD i 0) ns.length, h1 with
    | [z], _ =>
      rw [hh] at a b
      rw [List.mem_singleton] at a b
      rw [a, b]
  · intro h1
    have key : ∀ m, m ≤ ns.length → (firstMet (fun i => ns.getD i 0) m).length ≤ 1 := fun m => by
      induction m with
      | zero => intro _; rw [firstMet_zero]; simp
      | succ m ih =>
        intro hm
        rw [firstMet_succ]
        unfold step_dedup
        split
        · exact ih (by omega)
        · rename_i hb
          have he : firstMet (fun i => ns.getD i 0) m = [] := by
            cases hh : firstMet (fun i => ns.getD i 0) m with
            | nil => rfl
            | cons z t =>
              exfalso
              apply hb
              rw [hh, List.any_cons]
              have hz : z ∈ firstMet (fun i => ns.getD i 0) m := by rw [hh]; exact List.mem_cons_self
              obtain ⟨q, hq, eq⟩ := dist_first _ m z hz
              rw [fi q (by omega)] at eq
              have e1 := h1 _ (List.getElem_mem (show q < ns.length by omega))
              have e2 := h1 _ (List.getElem_mem (show m < ns.length by omega))
              rw [fi m (by omega), ← eq, e1, e2]
              simp
          rw [he]
          simp
    have a := first_mem (fun i => ns.getD i 0) ns.length i hi
    have := List.length_pos_of_mem a
    have := key ns.length (Nat.le_refl _)
    omega
end
end Pj

set_option Elab.async false
set_option linter.all false
set_option maxRecDepth 100000
/-! Pi6: shapes and equality of data; augmented assignments, insert, reversed, while. -/
namespace Pj
open PySem PySem.Spec PyProof.Rows L2
/-! ### shapes -/
def ShD (k : Nat) (d : PD) : Prop := d.canLay0 = true ∧ d.depth ≤ k
theorem ShD.mono {j k : Nat} {d : PD} (h : ShD j d) (e : j ≤ k) : ShD k d := ⟨h.1, Nat.le_trans h.2 e⟩
theorem ShD.shaped {k : Nat} {d : PD} (h : ShD k d) (e : k ≤ 64 := by decide) : SeqAt.shaped d = true := by
  unfold SeqAt.shaped
  rw [h.1]
  exact decide_eq_true (Nat.le_trans h.2 e)
theorem canAll {ds : List PD} (h : ∀ d ∈ ds, d.canLay0 = true) : PyData.canLayAll0 ds = true := by
  induction ds with
  | nil => rfl
  | cons d ds ih =>
    unfold PyData.canLayAll0
    rw [h d List.mem_cons_self, ih fun x hx => h x (List.mem_cons_of_mem _ hx)]
    rfl
theorem depAll {ds : List PD} {k : Nat} (h : ∀ d ∈ ds, d.depth ≤ k) : PyData.depthAll ds ≤ k := by
  induction ds with
  | nil => unfold PyData.depthAll; exact Nat.zero_le _
  | cons d ds ih =>
    unfold PyData.depthAll
    have := h d List.mem_cons_self
    have := ih fun x hx => h x (List.mem_cons_of_mem _ hx)
    omega
theorem shL {ds : List PD} {k : Nat} (h : ∀ d ∈ ds, ShD k d) : ShD (k + 1) (.list ds) := by
  refine ⟨canAll fun d hd => (h d hd).1, ?_⟩
  unfold PyData.depth
  have := depAll fun d hd => (h d hd).2
  omega
theorem shT {ds : List PD} {k : Nat} (h : ∀ d ∈ ds, ShD k d) : ShD (k + 1) (.tuple ds) := by
  refine ⟨canAll fun d hd => (h d hd).1, ?_⟩
  unfold PyData.depth
  have := depAll fun d hd => (h d hd).2
  omega
theorem shN : ShD 1 .none := ⟨rfl, by unfold PyData.depth; decide⟩
theorem shI {i : Int} : ShD 1 (.int i) := ⟨rfl, by unfold PyData.depth; decide⟩
theorem shB {b : Bool} : ShD 1 (.bool b) := ⟨rfl, by unfold PyData.depth; decide⟩
theorem shLm {α : Type} {l : List α} {f : α → PD} {k : Nat} (h : ∀ a ∈ l, ShD k (f a)) : ShD (k + 1) (.list (l.map f)) := shL fun d hd => by
  obtain ⟨a, ha, e⟩ := List.mem_map.mp hd
  exact e ▸ h a ha
theorem shTm {α : Type} {l : List α} {f : α → PD} {k : Nat} (h : ∀ a ∈ l, ShD k (f a)) : ShD (k + 1) (.tuple (l.map f)) := shT fun d hd => by
  obtain ⟨a, ha, e⟩ := List.mem_map.mp hd
  exact e ▸ h a ha
theorem shT2 {a b : PD} {k : Nat} (ha : ShD k a) (hb : ShD k b) : ShD (k + 1) (.tuple [a, b]) := shT fun d hd => by
  rcases List.mem_cons.mp hd with e | hd
  · exact e ▸ ha
  · exact (List.mem_singleton.mp hd) ▸ hb
/-! ### equality -/
mutual
def noB : PD → Bool
  | .bool _ => false
  | .dict _ => false
  | .list xs => noBs xs
  | .tuple xs => noBs xs
  | _ => true
def noBs : List PD → Bool
  | [] => true
  | x :: xs => noB x && noBs xs
end
mutual
theorem eqv_iff : ∀ (x y : PD), noB x = true → noB y = true → (PyData.eqv x y = true ↔ x = y)
  | .none, y, _, hy => by cases y <;> first | (simp [PyData.eqv]; done) | (cases hy)
  | .bool _, _, hx, _ => by cases hx
  | .dict _, _, hx, _ => by cases hx
  | .int i, y, _, hy => by cases y <;> first | (simp [PyData.eqv]; done) | (cases hy)
  | .str i, y, _, hy => by cases y <;> first | (simp [PyData.eqv]; done) | (cases hy)
  | .list xs, y, hx, hy => by
    cases y with
    | list ys =>
      have := eqvs_iff xs ys (by unfold noB at hx; exact hx) (by unfold noB at hy; exact hy)
      rw [PyData.list.injEq, ← this]
      unfold PyData.eqv
      exact Iff.rfl
    | bool _ => cases hy
    | dict _ => cases hy
    | _ => simp [PyData.eqv]
  | .tuple xs, y, hx, hy => by
    cases y with
    | tuple ys =>
      have := eqvs_iff xs ys (by unfold noB at hx; exact hx) (by unfold noB at hy; exact hy)
      rw [PyData.tuple.injEq, ← this]
      unfold PyData.eqv
      exact Iff.rfl
    | bool _ => cases hy
    | dict _ => cases hy
    | _ => simp [PyData.eqv]
theorem eqvs_iff : ∀ (xs ys : List PD), noBs xs = true → noBs ys = true → (PyData.eqvAll xs ys = true ↔ xs = ys)
  | [], [], _, _ => by simp [PyData.eqvAll]
  | [], _ :: _, _, _ => by simp [PyData.eqvAll]
  | _ :: _, [], _, _ => by simp [PyData.eqvAll]
  | x :: xs, y :: ys, hx, hy => by
    unfold noBs at hx hy
    rw [Bool.and_eq_true] at hx hy
    unfold PyData.eqvAll
    rw [Bool.and_eq_true, eqv_iff x y hx.1 hy.1, eqvs_iff xs ys hx.2 hy.2, List.cons.injEq]
end
theorem eqv_dec {x y : PD} [Decidable (x = y)] (hx : noB x = true) (hy : noB y = true) : PyData.eqv x y = decide (x = y) := by
  rw [Bool.eq_iff_iff, eqv_iff x y hx hy, decide_eq_true_iff]
theorem eqv_self {x : PD} (hx : noB x = true) : PyData.eqv x x = true := (eqv_iff x x hx hx).mpr rfl
theorem eqv_no {x y : PD} (hx : noB x = true) (hy : noB y = true) (h : x ≠ y) : PyData.eqv x y = false := by
  cases e : PyData.eqv x y with
  | false => rfl
  | true => exact absurd ((eqv_iff x y hx hy).mp e) h
theorem noBs_of {ds : List PD} (h : ∀ d ∈ ds, noB d = true) : noBs ds = true := by
  induction ds with
  | nil => rfl
  | cons d ds ih =>
    unfold noBs
    rw [h d List.mem_cons_self, ih fun x hx => h x (List.mem_cons_of_mem _ hx)]
    rfl
theorem noBs_map {α : Type} {l : List α} {f : α → PD} (h : ∀ a ∈ l, noB (f a) = true) : noBs (l.map f) = true := noBs_of fun d hd => by
  obtain ⟨a, ha, e⟩ := List.mem_map.mp hd
  exact e ▸ h a ha
/-- one of them is None -/
theorem any_none (ds : List PD) : (ds.any fun y => PyData.eqv y .none) = ds.any isN := by
  congr 1
  funext y
  cases y <;> rfl
section
variable {X : Cx} {W : WX} {lv : Nat} {body rest : List Stmt} {a b c e e2 tg : Expr} {ρ ρ1 ρ2 : En} {ds es : List PD} {d x y : PD} {z : Rs} {k : Bool} {i j : Int} {pos p p2 p3 pos' : Pos} {n : Str} {ns : List Int}
/-- n += e, a whole number -/
theorem sj_augI (m : Nat) (C : Ok X W lv) (he : EJ X W e ρ (.ok ρ1 (.va (.int j)))) (hd : ρ[m]? = some (.va (.int i)) := by rfl) (hi : X.N[m]? = some n := by rfl) (hlt : m < ρ1.length := by exact Nat.le_of_ble_eq_true rfl) (hx : Loc X.env.scope n := by first | exact Or.inl rfl | exact Or.inr rfl)
    (hf : X.fn n = true ∨ X.env.scope.names.lookup n = some .local := by first | exact .inl rfl | exact .inr rfl) : SJ X W (.AugAssign (.Name n pos') .Add e pos) ρ (.nx (ρ1.set m (.va (.int (i + j))))) := by
  obtain ⟨t, h1, h2⟩ := he
  refine ⟨_, ps_aug C.nd hi hx h1 ip_add hf, fun F H σ D R q => ?_⟩
  obtain ⟨v, g1, g2⟩ := R.va m _ hd
  cases g2
  refine ⟨_, g1, h2 F H σ _ R fun F1 H1 w x1 R1 q1 => ?_⟩
  cases q1.1
  refine ⟨_, _, rfl, rfl, ?_⟩
  obtain ⟨R2, g⟩ := R1.set (H0 := H) (r := .va (.int (i + j))) hlt (v := .int (i + j)) ⟨.int _, fun _ _ z => nomatch z⟩
  exact q F1 H1 _ (x1.set g) R2
theorem ip_catA : PIp X .Add (rCatA X.K) := by
  intro pins s σ H x y v u Q I rx ry h
  obtain ⟨a, b, xs, ys, rfl, rfl, ha, hb, hz, q0, q1, q2⟩ := h
  cases rx
  cases ry
  obtain ⟨its, r1, p1, _⟩ := I.tuple ha
  obtain ⟨its2, r2, p2, _⟩ := I.tuple hb
  have noI : typeLookup (.type "tuple") (dunderI "add") = pure none := by rw [typeLookup_type, builtinLookup_eq_fast]; kernel_rfl
  obtain ⟨⟨cls, dd, data, sl⟩, ho, hc, n, hd⟩ := p1
  obtain ⟨⟨cls2, dd2, data2, sl2⟩, ho2, hc2, n2, hd2⟩ := p2
  simp only at hc hd hc2 hd2
  subst hc hd hc2 hd2
  have ea : its.toArray ++ its2.toArray = (its ++ its2).toArray := by simp
  have hz2 : its.toArray.size + its2.toArray.size ≤ sizeLine := by rw [List.size_toArray, List.size_toArray, ← r1.length, ← r2.length]; exact hz
  by_cases e1 : xs = []
  · have e1' : its = [] := r1.nil_iff.mpr e1
    exact wpAny_inplaceOp_concat ⟨_, ho, rfl⟩ ⟨_, ho2, rfl⟩ noI noFill_tuple_add seq_tuple_add (call_meets PySem.F.slot_tuple_add ⟨_, ho, rfl⟩ PySem.F.entry_tuple_add (PySem.F.args_tuple_add_2 _ _) (tuple_addW0 a b its.toArray its2.toArray n n2 dd dd2 sl sl2 (by simp [e1']))
      ⟨ho, ho2, ⟨.ref b, H, I, rfl, q0 e1⟩⟩)
  · have e1' : its ≠ [] := fun z => e1 (r1.nil_iff.mp z)
    by_cases e2 : ys = []
    · have e2' : its2 = [] := r2.nil_iff.mpr e2
      exact wpAny_inplaceOp_concat ⟨_, ho, rfl⟩ ⟨_, ho2, rfl⟩ noI noFill_tuple_add seq_tuple_add (call_meets PySem.F.slot_tuple_add ⟨_, ho, rfl⟩ PySem.F.entry_tuple_add (PySem.F.args_tuple_add_2 _ _) (tuple_addW1 a b its.toArray its2.toArray n n2 dd dd2 sl sl2 (by simpa using e1') (by simp [e2']))
        ⟨ho, ho2, ⟨.ref a, H, I, rfl, q1 e1 e2⟩⟩)
    · have e2' : its2 ≠ [] := fun z => e2 (r2.nil_iff.mp z)
      refine wpAny_inplaceOp_concat ⟨_, ho, rfl⟩ ⟨_, ho2, rfl⟩ noI noFill_tuple_add seq_tuple_add (call_meets PySem.F.slot_tuple_add ⟨_, ho, rfl⟩ PySem.F.entry_tuple_add (PySem.F.args_tuple_add_2 _ _) (tuple_addW2 a b its.toArray its2.toArray n n2 dd dd2 sl sl2 (by simpa using e1') (by simpa using e2') hz2)
        ⟨ho, ho2, ?_⟩)
      rw [ea]
      refine ⟨.ref s.heap.objs.size, _, I.laid (t' := s.toks) (o := .tup (xs ++ ys)) (fun b ob q => Heap.get?_push_of_some _ q) (Nat.le_refl _) ?_, rfl, q2 e1 e2 _ (I.hok.fresh (Nat.le_refl _))⟩
      exact ⟨by rw [List.length_append]; exact hz, _, r1.append r2, IsTup.new _ _⟩
/-- n += e, a tuple -/
theorem sj_augT (m : Nat) (C : Ok X W lv) (he : EJ X W e ρ (.ok ρ1 (.va (.tuple es)))) (hz : ds.length + es.length ≤ sizeLine) (hd : ρ[m]? = some (.va (.tuple ds)) := by rfl) (hi : X.N[m]? = some n := by rfl) (hlt : m < ρ1.length := by exact Nat.le_of_ble_eq_true rfl) (hx : Loc X.env.scope n := by first | exact Or.inl rfl | exact Or.inr rfl)
    (hf : X.fn n = true ∨ X.env.scope.names.lookup n = some .local := by first | exact .inl rfl | exact .inr rfl) : SJ X W (.AugAssign (.Name n pos') .Add e pos) ρ (.nx (ρ1.set m (.va (.tuple (ds ++ es))))) := by
  obtain ⟨t, h1, h2⟩ := he
  refine ⟨_, ps_aug C.nd hi hx h1 ip_catA hf, fun F H σ D R q => ?_⟩
  obtain ⟨v, g1, g2⟩ := R.va m _ hd
  refine ⟨_, g1, h2 F H σ _ R fun F1 H1 w x1 R1 q1 => ?_⟩
  refine p2_catA hz F1 H1 v w _ R1.fh (Dp.mono g2 x1.ff) q1.1 fun F2 H2 r x2 q2 => ?_
  obtain ⟨R2, x3⟩ := R1.ext x2
  obtain ⟨R3, g⟩ := R2.set (H0 := H) (r := .va (.tuple (ds ++ es))) hlt (v := r) ⟨q2, fun _ _ z => nomatch z⟩
  exact q F2 H2 _ ((x1.trans x3).set g) R3
/-- name.insert(0, e) -/
theorem sj_insert0 (m : Nat) {pn pa : Pos} {l0 : Nat} {pc : Pos} {s : Sl} (he : EJ X W e ρ (.ok ρ1 (.va d))) (hd : ρ1[m]? = some s := by rfl) (hs : s.ct = some (.lst ds) := by rfl) (h0 : ∃ s0 c0, ρ[m]? = some s0 ∧ s0.ct = some (.lst c0) := by exact ⟨_, _, rfl, rfl⟩) (hz : ds.length < sizeLine) (hN : X.N[m]? = some n := by rfl)
    (hv : Vis X.env.scope n := by first | exact Or.inl rfl | exact Or.inr (Or.inl rfl) | exact Or.inr (Or.inr rfl)) (hdb : (n == ("__debug__" : Str)) = false := by decide) (hcd : (n == ("__classdict__" : Str)) = false := by decide)
    (hst0 : starEach [.Constant (.int 0) l0 pc, e] X.env = (false, eval (.Constant (.int 0) l0 pc) X.env) :: starEach [e] X.env := by rfl) (hst : starEach [e] X.env = (false, eval e X.env) :: starEach [] X.env := by rfl) (hpl : (backTo p2 (starEach [e] X.env)).any (·.1) = false := by rfl)
    (hfew : ((backTo p2 (starEach [.Constant (.int 0) l0 pc, e] X.env)).all (fun x => !x.1) && (backToKw p2 (keywordEach [] X.env)).all (fun x => x.1.isSome)
      && decide (([.Constant (.int 0) l0 pc, e] : List Expr).length + ([] : List Keyword).length + (if ([] : List Keyword).isEmpty then 0 else 1) < 30)) = true := by rfl) (hline : (pa.endLine == p2.line) = true := by rfl)
    (hsw : swapsWith (.Call (.Attribute (.Name n pn) "insert" pa) [.Constant (.int 0) l0 pc, e] [] p2) none pos.line X.env = pure false := by rfl) : SJ X W (.Expr (.Call (.Attribute (.Name n pn) "insert" pa) [.Constant (.int 0) l0 pc, e] [] p2) pos) ρ (.nx (ρ1.set m (s.upd (.lst (d :: ds))))) := by
  obtain ⟨t, h1, h2⟩ := he
  refine ⟨_, ps_expr (pe_bm PySem.F.plainAttrs_list PySem.F.slot_list_insert PySem.F.type_list_insert mt_insert (pe_var hN hv hdb hcd) (pa_cons pe_int (pa_cons h1 pa_nil hst) hst0) rfl hfew hline hst0 hpl) hsw, fun F H σ D R q => ?_⟩
  obtain ⟨s0, c0, g1, g2⟩ := h0
  obtain ⟨a, u, e1, e2, e3, e4⟩ := own_at R g1 g2
  obtain ⟨vs0, rfl, _⟩ := ctOk_lst e4
  refine ⟨_, e1, .inl ⟨rfl, _, SqL.of e3⟩, h2 F H σ _ R fun F1 H1 v x1 R1 q1 => ?_⟩
  obtain ⟨a', u', f1, f2, f3, f4⟩ := own_at R1 hd hs
  rw [e1] at f1
  cases f1
  obtain ⟨vs, rfl, f5⟩ := ctOk_lst f4
  obtain ⟨R2, x2⟩ := re_upd R1 hd hs e1 (u := .lst (v :: vs)) (c' := .lst (d :: ds)) (show DpAll X.K F1 (v :: vs) (d :: ds) from .cons q1.1 f5)
  refine ⟨a, vs, 0, v, rfl, rfl, f3, by rw [DpAll.len f5]; exact hz, Int.le_refl 0, by decide, ?_⟩
  exact q F1 _ σ (x1.trans x2) R2
end
end Pj

set_option Elab.async false
set_option linter.all false
set_option maxRecDepth 100000
/-! Pi7: reversed, while. -/
namespace Pj
open PySem PySem.Spec PyProof.Rows L2
def runW {S : Type} (cd : S → Bool) (step : S → S) : Nat → S → S
  | 0, s => s
  | m + 1, s => if cd s then runW cd step m (step s) else s
section
variable {X : Cx} {W : WX} {lv : Nat} {body rest : List Stmt} {a b c e e2 tg : Expr} {ρ ρ1 ρ2 : En} {ds es : List PD} {d x y : PD} {z : Rs} {k : Bool} {i j : Int} {pos p p2 p3 pos' : Pos} {n : Str} {ns : List Int} {S : Type}
theorem it_rev (ha : EJ X W e ρ (.ok ρ1 (.va x))) (hm : X.mg "reversed" = none) (hx : itemsOf x = some ds := by rfl) (hg : Gl X "reversed" := by rfl)
    (hs : starEach [e] X.env = (false, eval e X.env) :: starEach [] X.env := by rfl) : ItJ X W tg (.Call (.Name "reversed" p) [e] [] pos) ρ ρ1 ds.reverse := by
  obtain ⟨t, h1, h2⟩ := ha
  refine ⟨_, RT.pi_revA hg hm h1 hs, fun F H σ R RR q => h2 F H σ _ RR fun F1 H1 v x1 R1 q1 => ?_⟩
  have nth : ∀ {xs : List V} {i : Nat} {d : PD}, DpAll X.K F1 xs ds → ds.reverse[i]? = some d → ∃ u, xs[xs.length - 1 - i]? = some u ∧ Dp X.K F1 u d := fun {xs i d} h e => by
    have l := DpAll.len h
    have hi := (List.getElem?_eq_some_iff.mp e).1
    rw [List.length_reverse] at hi
    rw [List.getElem?_reverse hi] at e
    obtain ⟨u, g1, g2⟩ := DpAll.get h e
    exact ⟨u, by rw [l]; exact g1, g2⟩
  cases q1.1 with
  | @lst a xs _ hs ha =>
    cases hx
    have l := DpAll.len ha
    refine ⟨a, xs, rfl, .inl ⟨Same.seq R1.fh hs, q F1 H1 _ x1 R1 ⟨⟨fun H => SqL X.K H a xs, fun F H s1 s2 => Same.seq s2 (Same.seq s1 hs), fun i H hi g => ?_, fun H g => ?_, fun i d F H x H' hd s1 s2 yl => ?_⟩⟩⟩⟩
    · rw [List.length_reverse] at hi
      exact ⟨by omega, xs, xs[xs.length - 1 - i]'(by omega), g, List.getElem?_eq_getElem (by omega)⟩
    · show xs.length ≤ ds.reverse.length
      rw [List.length_reverse]; omega
    · obtain ⟨rfl, y2⟩ := yl
      obtain ⟨u, g1, g2⟩ := nth ha hd
      rw [y2 xs (Same.seq s2 (Same.seq s1 hs))] at g1
      cases g1
      exact ⟨F, Xt.refl s2, Dp.mono g2 s1⟩
  | @tup a xs _ hs ha =>
    cases hx
    have l := DpAll.len ha
    refine ⟨a, xs, rfl, .inr ⟨Same.seqT R1.fh hs, q F1 H1 _ x1 R1 ⟨⟨fun H => SqT X.K H a xs, fun F H s1 s2 => Same.seqT s2 (Same.seqT s1 hs), fun i H hi g => ?_, fun H g => ?_, fun i d F H x H' hd s1 s2 yl => ?_⟩⟩⟩⟩
    · rw [List.length_reverse] at hi
      exact ⟨by omega, xs, xs[xs.length - 1 - i]'(by omega), g, List.getElem?_eq_getElem (by omega)⟩
    · show xs.length ≤ ds.reverse.length
      rw [List.length_reverse]; omega
    · obtain ⟨rfl, y2⟩ := yl
      obtain ⟨u, g1, g2⟩ := nth ha hd
      rw [y2 xs (Same.seqT s2 (Same.seqT s1 hs))] at g1
      cases g1
      exact ⟨F, Xt.refl s2, Dp.mono g2 s1⟩
  | _ => cases hx
theorem ej_lenM {α : Type} (l : List α) (f : α → PD) (hm : X.mg "len" = none) (ha : EJ X W a ρ (.ok ρ1 (.va x))) (hx : itemsOf x = some (l.map f) := by rfl) (hg : Gl X "len" := by rfl) (he : starEach [a] X.env = (false, eval a X.env) :: starEach [] X.env := by rfl) (hpl : (backTo pos (starEach [] X.env)).any (·.1) = false := by rfl) :
    EJ X W (.Call (.Name "len" p) [a] [] pos) ρ (.ok ρ1 (.va (.int l.length))) := by
  have := ej_len (p := p) hm ha hx hg he hpl
  rwa [List.length_map] at this
theorem whJ_run (E : S → En) (cd : S → Bool) (step : S → S) (ms : S → Nat) (Inv : S → Prop) (turn : ∀ s, Inv s → TJ X W c (E s) (E s) (cd s) ∧ (cd s = true → BJ X W body (E s) (.nx (E (step s))) ∧ Inv (step s) ∧ ms (step s) < ms s)) :
    ∀ (m : Nat) (s : S), ms s ≤ m → Inv s → WhJ X W c body m (E s) (.nx (E (runW cd step m s))) ∧ Inv (runW cd step m s)
  | 0, s, hm, hs => by
    obtain ⟨t1, t2⟩ := turn s hs
    unfold runW
    cases hc : cd s with
    | false => rw [hc] at t1; exact ⟨.done t1, hs⟩
    | true =>
      have := (t2 hc).2.2
      omega
  | m + 1, s, hm, hs => by
    obtain ⟨t1, t2⟩ := turn s hs
    unfold runW
    cases hc : cd s with
    | false =>
      rw [hc] at t1
      exact ⟨.done t1, hs⟩
    | true =>
      rw [hc] at t1
      obtain ⟨b1, b2, b3⟩ := t2 hc
      obtain ⟨r1, r2⟩ := whJ_run E cd step ms Inv turn m (step s) (by omega) b2
      exact ⟨.nx t1 b1 r1, r2⟩
theorem sj_whileR (E : S → En) (cd : S → Bool) (step : S → S) (ms : S → Nat) (Inv : S → Prop) (s : S) (m : Nat) (C : Ok X W lv) (hm : ms s ≤ m) (hs : Inv s)
    (turn : ∀ s, Inv s → TJ X W c (E s) (E s) (cd s) ∧ (cd s = true → BJ X W body (E s) (.nx (E (step s))) ∧ Inv (step s) ∧ ms (step s) < ms s)) : SJ X W (.While c body [] pos) (E s) (.nx (E (runW cd step m s))) :=
  sj_while C (whJ_run E cd step ms Inv turn m s hm hs).1
end
/-! ### binary searches -/
def bsLow (p : Int → Bool) (s : Int × Int) : Int × Int := if p ((s.1 + s.2) / 2) then (s.1, (s.1 + s.2) / 2) else ((s.1 + s.2) / 2 + 1, s.2)
def bsHigh (p : Int → Bool) (s : Int × Int) : Int × Int := if p ((s.1 + s.2 + 1) / 2) then ((s.1 + s.2 + 1) / 2, s.2) else (s.1, (s.1 + s.2 + 1) / 2 - 1)
def openB (s : Int × Int) : Bool := decide (s.1 < s.2)
def lowest (p : Int → Bool) (l h : Int) : Int := (runW openB (bsLow p) (h - l).toNat (l, h)).1
def highest (p : Int → Bool) (l h : Int) : Int := (runW openB (bsHigh p) (h - l).toNat (l, h)).1
theorem bsLow_ms {p : Int → Bool} {s : Int × Int} (h : openB s = true) : ((bsLow p s).2 - (bsLow p s).1).toNat < (s.2 - s.1).toNat := by
  have h' : s.1 < s.2 := of_decide_eq_true h
  unfold bsLow
  split <;> (dsimp only; omega)
theorem bsHigh_ms {p : Int → Bool} {s : Int × Int} (h : openB s = true) : ((bsHigh p s).2 - (bsHigh p s).1).toNat < (s.2 - s.1).toNat := by
  have h' : s.1 < s.2 := of_decide_eq_true h
  unfold bsHigh
  split <;> (dsimp only; omega)
theorem runLow {p : Int → Bool} {L H : Int} (mono : ∀ a b, L ≤ a → a ≤ b → b ≤ H → p a = true → p b = true) : ∀ (m : Nat) (l h : Int), (h - l).toNat ≤ m → L ≤ l → l ≤ h → h ≤ H → p h = true → (∀ v, L ≤ v → v < l → p v = false) →
    ∃ v, runW openB (bsLow p) m (l, h) = (v, v) ∧ L ≤ v ∧ v ≤ H ∧ p v = true ∧ ∀ u, L ≤ u → u < v → p u = false
  | 0, l, h, hm, h1, h2, h3, h4, h5 => by
    have : l = h := by omega
    subst this
    exact ⟨l, rfl, h1, h3, h4, h5⟩
  | m + 1, l, h, hm, h1, h2, h3, h4, h5 => by
    unfold runW
    by_cases hc : l < h
    · have : openB (l, h) = true := decide_eq_true hc
      rw [if_pos this]
      have e := bsLow_ms (p := p) this
      unfold bsLow at e ⊢
      dsimp only at e ⊢
      cases hp : p ((l + h) / 2) with
      | true =>
        rw [hp, if_pos rfl] at e
        exact runLow mono m l ((l + h) / 2) (by dsimp only at e; omega) h1 (by omega) (by omega) hp h5
      | false =>
        rw [hp, if_neg Bool.false_ne_true] at e
        refine runLow mono m ((l + h) / 2 + 1) h (by dsimp only at e; omega) (by omega) (by omega) h3 h4 fun v g1 g2 => ?_
        cases hv : p v with
        | false => rfl
        | true =>
          have := mono v ((l + h) / 2) g1 (by omega) (by omega) hv
          rw [hp] at this
          cases this
    · have : openB (l, h) = false := decide_eq_false hc
      rw [if_neg (by rw [this]; exact Bool.false_ne_true)]
      have : l = h := by omega
      subst this
      exact ⟨l, rfl, h1, h3, h4, h5⟩
/-- the least place where p holds -/
theorem lowest_spec {p : Int → Bool} {l h : Int} (mono : ∀ a b, l ≤ a → a ≤ b → b ≤ h → p a = true → p b = true) (hl : l ≤ h) (hp : p h = true) :
    l ≤ lowest p l h ∧ lowest p l h ≤ h ∧ p (lowest p l h) = true ∧ ∀ u, l ≤ u → u < lowest p l h → p u = false := by
  obtain ⟨v, e, h1, h2, h3, h4⟩ := runLow mono (h - l).toNat l h (Nat.le_refl _) (Int.le_refl _) hl (Int.le_refl _) hp fun v g1 g2 => absurd g2 (by omega)
  have : lowest p l h = v := by unfold lowest; rw [e]
  rw [this]
  exact ⟨h1, h2, h3, h4⟩
theorem runHigh {p : Int → Bool} {L H : Int} (mono : ∀ a b, L ≤ a → a ≤ b → b ≤ H → p b = true → p a = true) : ∀ (m : Nat) (l h : Int), (h - l).toNat ≤ m → L ≤ l → l ≤ h → h ≤ H → p l = true → (∀ v, h < v → v ≤ H → p v = false) →
    ∃ v, runW openB (bsHigh p) m (l, h) = (v, v) ∧ L ≤ v ∧ v ≤ H ∧ p v = true ∧ ∀ u, v < u → u ≤ H → p u = false
  | 0, l, h, hm, h1, h2, h3, h4, h5 => by
    have : l = h := by omega
    subst this
    exact ⟨l, rfl, h1, h3, h4, h5⟩
  | m + 1, l, h, hm, h1, h2, h3, h4, h5 => by
    unfold runW
    by_cases hc : l < h
    · have : openB (l, h) = true := decide_eq_true hc
      rw [if_pos this]
      have e := bsHigh_ms (p := p) this
      unfold bsHigh at e ⊢
      dsimp only at e ⊢
      cases hp : p ((l + h + 1) / 2) with
      | true =>
        rw [hp, if_pos rfl] at e
        exact runHigh mono m ((l + h + 1) / 2) h (by dsimp only at e; omega) (by omega) (by omega) h3 hp h5
      | false =>
        rw [hp, if_neg Bool.false_ne_true] at e
        refine runHigh mono m l ((l + h + 1) / 2 - 1) (by dsimp only at e; omega) h1 (by omega) (by omega) h4 fun v g1 g2 => ?_
        cases hv : p v with
        | false => rfl
        | true =>
          have := mono ((l + h + 1) / 2) v (by omega) (by omega) g2 hv
          rw [hp] at this
          cases this
    · have : openB (l, h) = false := decide_eq_false hc
      rw [if_neg (by rw [this]; exact Bool.false_ne_true)]
      have : l = h := by omega
      subst this
      exact ⟨l, rfl, h1, h3, h4, h5⟩
/-- the last place where p holds -/
theorem highest_spec {p : Int → Bool} {l h : Int} (mono : ∀ a b, l ≤ a → a ≤ b → b ≤ h → p b = true → p a = true) (hl : l ≤ h) (hp : p l = true) :
    l ≤ highest p l h ∧ highest p l h ≤ h ∧ p (highest p l h) = true ∧ ∀ u, highest p l h < u → u ≤ h → p u = false := by
  obtain ⟨v, e, h1, h2, h3, h4⟩ := runHigh mono (h - l).toNat l h (Nat.le_refl _) (Int.le_refl _) hl (Int.le_refl _) hp fun v g1 g2 => absurd g1 (by omega)
  have : highest p l h = v := by unfold highest; rw [e]
  rw [this]
  exact ⟨h1, h2, h3, h4⟩
/-! ### slices -/
theorem cut_to {α : Type} {xs : List α} {i : Nat} : cutL xs none (some (i : Int)) = xs.take i := by
  unfold cutL
  rw [HT.sIx_none, HT.sIx_nat, List.drop_zero, Nat.sub_zero]
  by_cases h : i ≤ xs.length
  · rw [Nat.min_eq_left h]
  · rw [Nat.min_eq_right (by omega), List.take_of_length_le (Nat.le_refl _), List.take_of_length_le (by omega)]
theorem cut_from {α : Type} {xs : List α} {i : Nat} : cutL xs (some (i : Int)) none = xs.drop i := by
  unfold cutL
  rw [HT.sIx_none, HT.sIx_nat, List.take_of_length_le (by rw [List.length_drop]; omega)]
  by_cases h : i ≤ xs.length
  · rw [Nat.min_eq_left h]
  · rw [Nat.min_eq_right (by omega), List.drop_of_length_le (Nat.le_refl _), List.drop_of_length_le (by omega)]
theorem cut_from1 {α : Type} {xs : List α} {i : Nat} : cutL xs (some ((i : Int) + 1)) none = xs.drop (i + 1) := by
  rw [show (i : Int) + 1 = ((i + 1 : Nat) : Int) by omega]
  exact cut_from
theorem set_cut {α : Type} {xs : List α} {i : Nat} {a : α} (h : i < xs.length) : xs.set i a = xs.take i ++ [a] ++ xs.drop (i + 1) := by
  induction xs generalizing i with
  | nil => cases h
  | cons x xs ih =>
    cases i with
    | zero => rfl
    | succ i =>
      rw [List.set_cons_succ, ih (by simpa using h)]
      rfl
theorem ixN_nat {n k : Nat} (h : k < n) : ixN n (k : Int) = some k := by
  unfold ixN
  rw [if_pos (by omega), if_pos (by omega)]
  rfl
end Pj

set_option Elab.async false
set_option linter.all false
set_option maxRecDepth 100000
/-! Pn: screenshots as plain data. -/
namespace Pj
open PySem PySem.Spec PyProof.Rows L2
abbrev Num := Option Int
abbrev Shot := Int × List Num
abbrev Rng := Option (Int × Int)
def eNums (ns : List Num) : PD := .tuple (ns.map eOI)
def eShot (s : Shot) : PD := .tuple [.int s.1, eNums s.2]
def eShots (ss : List Shot) : PD := .tuple (ss.map eShot)
def eRow (row : List Rng) : PD := .list (row.map eOp)
def eRngs (rs : List (List Rng)) : PD := .list (rs.map eRow)
def isNum (r : Ru) (d : PD) : Bool := isN d || isI d 0 (scl r)
def isNumbers (r : Ru) : PD → Bool
  | .tuple ds => decide (2 ≤ ds.length) && decide (ds.length ≤ 6) && ds.all (isNum r)
  | _ => false
def isShot (r : Ru) : PD → Bool
  | .tuple [a, b] => isI a 1 1000000 && isNumbers r b
  | _ => false
def lenOf : PD → Int
  | .tuple [_, .tuple ds] => ds.length
  | _ => 0
def isShots (r : Ru) : PD → Bool
  | .tuple ds => decide (1 ≤ ds.length) && decide (ds.length ≤ 8) && ds.all (isShot r) && ds.all fun d => lenOf d == lenOf (ds.headD .none)
  | _ => false
def GoodN (r : Ru) (n : Num) : Prop := ∀ i, n = some i → 0 ≤ i ∧ i ≤ scl r
/-- n options, screenshots ss -/
structure GoodS (r : Ru) (n : Nat) (ss : List Shot) : Prop where
  rule : r.ok
  wide : 2 ≤ n ∧ n ≤ 6
  cnt : 1 ≤ ss.length ∧ ss.length ≤ 8
  tot : ∀ s ∈ ss, 1 ≤ s.1 ∧ s.1 ≤ 1000000
  len : ∀ s ∈ ss, s.2.length = n
  num : ∀ s ∈ ss, ∀ x ∈ s.2, GoodN r x
theorem isNum_e {r : Ru} {x : Num} : isNum r (eOI x) = true ↔ GoodN r x := by
  cases x with
  | none => exact ⟨fun _ i e => (by cases e), fun _ => rfl⟩
  | some i =>
    show (false || (decide (0 ≤ i) && decide (i ≤ scl r))) = true ↔ _
    rw [Bool.false_or, Bool.and_eq_true, decide_eq_true_eq, decide_eq_true_eq]
    exact ⟨fun h j e => by cases e; exact h, fun h => h i rfl⟩
theorem isNum_elim {r : Ru} {d : PD} (h : isNum r d = true) : ∃ x : Num, d = eOI x := by
  unfold isNum at h
  cases d with
  | none => exact ⟨none, rfl⟩
  | int i => exact ⟨some i, rfl⟩
  | _ => cases h
theorem nums_elim {r : Ru} : ∀ {ds : List PD}, ds.all (isNum r) = true → ∃ xs : List Num, ds = xs.map eOI ∧ ∀ x ∈ xs, GoodN r x
  | [], _ => ⟨[], rfl, fun _ h => by cases h⟩
  | d :: ds, h => by
    rw [List.all_cons, Bool.and_eq_true] at h
    obtain ⟨xs, e, g⟩ := nums_elim h.2
    obtain ⟨x, ex⟩ := isNum_elim h.1
    subst ex
    refine ⟨x :: xs, by rw [e]; rfl, fun y hy => ?_⟩
    rcases List.mem_cons.mp hy with e | hy
    · subst e; exact isNum_e.mp h.1
    · exact g y hy
theorem isNumbers_elim {r : Ru} {d : PD} (h : isNumbers r d = true) : ∃ xs : List Num, d = eNums xs ∧ 2 ≤ xs.length ∧ xs.length ≤ 6 ∧ ∀ x ∈ xs, GoodN r x := by
  cases d with
  | tuple ds =>
    unfold isNumbers at h
    simp only [Bool.and_eq_true, decide_eq_true_eq] at h
    obtain ⟨⟨h1, h2⟩, h3⟩ := h
    obtain ⟨xs, rfl, g⟩ := nums_elim h3
    rw [List.length_map] at h1 h2
    exact ⟨xs, rfl, h1, h2, g⟩
  | _ => cases h
theorem isNumbers_e {r : Ru} {xs : List Num} (h1 : 2 ≤ xs.length) (h2 : xs.length ≤ 6) (g : ∀ x ∈ xs, GoodN r x) : isNumbers r (eNums xs) = true := by
  unfold isNumbers eNums
  simp only [Bool.and_eq_true, decide_eq_true_eq, List.length_map, List.all_map]
  exact ⟨⟨h1, h2⟩, List.all_eq_true.mpr fun x hx => isNum_e.mpr (g x hx)⟩
theorem isI_elim {d : PD} {lo hi : Int} (h : isI d lo hi = true) : ∃ i, d = .int i ∧ lo ≤ i ∧ i ≤ hi := by
  cases d with
  | int i =>
    have h' : (decide (lo ≤ i) && decide (i ≤ hi)) = true := h
    rw [Bool.and_eq_true, decide_eq_true_eq, decide_eq_true_eq] at h'
    exact ⟨i, rfl, h'⟩
  | _ => cases h
theorem isI_e {i lo hi : Int} : isI (.int i) lo hi = true ↔ lo ≤ i ∧ i ≤ hi := by
  show (decide (lo ≤ i) && decide (i ≤ hi)) = true ↔ _
  rw [Bool.and_eq_true, decide_eq_true_eq, decide_eq_true_eq]
def GoodShot (r : Ru) (s : Shot) : Prop := (1 ≤ s.1 ∧ s.1 ≤ 1000000) ∧ (2 ≤ s.2.length ∧ s.2.length ≤ 6) ∧ ∀ x ∈ s.2, GoodN r x
theorem isShot_elim {r : Ru} {d : PD} (h : isShot r d = true) : ∃ s : Shot, d = eShot s ∧ GoodShot r s := by
  unfold isShot at h
  split at h
  · rename_i a b
    rw [Bool.and_eq_true] at h
    obtain ⟨i, rfl, h1⟩ := isI_elim h.1
    obtain ⟨xs, rfl, h2, h3, h4⟩ := isNumbers_elim h.2
    exact ⟨(i, xs), rfl, h1, ⟨h2, h3⟩, h4⟩
  · cases h
theorem isShot_e {r : Ru} {s : Shot} (h : GoodShot r s) : isShot r (eShot s) = true := by
  show (isI (.int s.1) 1 1000000 && isNumbers r (eNums s.2)) = true
  rw [Bool.and_eq_true]
  exact ⟨isI_e.mpr h.1, isNumbers_e h.2.1.1 h.2.1.2 h.2.2⟩
theorem lenOf_e (s : Shot) : lenOf (eShot s) = s.2.length := by
  show ((s.2.map eOI).length : Int) = _
  rw [List.length_map]
theorem shots_elim {r : Ru} : ∀ {ds : List PD}, ds.all (isShot r) = true → ∃ ss : List Shot, ds = ss.map eShot ∧ ∀ s ∈ ss, GoodShot r s
  | [], _ => ⟨[], rfl, fun _ h => by cases h⟩
  | d :: ds, h => by
    rw [List.all_cons, Bool.and_eq_true] at h
    obtain ⟨xs, e, g⟩ := shots_elim h.2
    obtain ⟨x, ex, gx⟩ := isShot_elim h.1
    subst ex
    refine ⟨x :: xs, by rw [e]; rfl, fun y hy => ?_⟩
    rcases List.mem_cons.mp hy with e | hy
    · subst e; exact gx
    · exact g y hy
theorem isShots_elim {r : Ru} {d : PD} (hr : r.ok) (h : isShots r d = true) : ∃ n ss, GoodS r n ss ∧ d = eShots ss := by
  cases d with
  | tuple ds =>
    unfold isShots at h
    simp only [Bool.and_eq_true, decide_eq_true_eq] at h
    obtain ⟨⟨⟨h1, h2⟩, h3⟩, h4⟩ := h
    obtain ⟨ss, rfl, g⟩ := shots_elim h3
    rw [List.length_map] at h1 h2
    match ss, g, h1, h2, h4 with
    | s0 :: ss, g, h1, h2, h4 =>
      refine ⟨s0.2.length, s0 :: ss, ⟨hr, (g s0 List.mem_cons_self).2.1, ⟨h1, h2⟩, fun s hs => (g s hs).1, fun s hs => ?_, fun s hs => (g s hs).2.2⟩, rfl⟩
      have := List.all_eq_true.mp h4 (eShot s) (List.mem_map_of_mem hs)
      rw [beq_iff_eq, lenOf_e] at this
      have e : lenOf (((s0 :: ss).map eShot).headD .none) = s0.2.length := lenOf_e s0
      rw [e] at this
      omega
  | _ => cases h
theorem GoodS.shot {r : Ru} {n : Nat} {ss : List Shot} (G : GoodS r n ss) {s : Shot} (h : s ∈ ss) : GoodShot r s := ⟨G.tot s h, by rw [G.len s h]; exact G.wide, G.num s h⟩
theorem isShots_e {r : Ru} {n : Nat} {ss : List Shot} (G : GoodS r n ss) : isShots r (eShots ss) = true := by
  unfold isShots eShots
  simp only [Bool.and_eq_true, decide_eq_true_eq, List.length_map]
  refine ⟨⟨⟨G.cnt.1, G.cnt.2⟩, ?_⟩, ?_⟩
  · rw [List.all_map]
    exact List.all_eq_true.mpr fun s hs => isShot_e (G.shot hs)
  · rw [List.all_map]
    refine List.all_eq_true.mpr fun s hs => ?_
    show (lenOf (eShot s) == _) = true
    rw [lenOf_e, G.len s hs, beq_iff_eq]
    match ss, G, hs with
    | s0 :: t, G, _ =>
      show _ = lenOf (eShot s0)
      rw [lenOf_e, G.len s0 List.mem_cons_self]
def ownR (r : Ru) (t : Int) : Num → Rng
  | none => some (0, t)
  | some n => rangeM r t n
def rngs (r : Ru) (ss : List Shot) : List (List Rng) := ss.map fun s => s.2.map (ownR r s.1)
def M_are_numbers (ds : List PD) (o : PO) : Prop := ∃ r v, Ru.ok r ∧ ds = [eRu r, v] ∧ o = .ok (.va (.bool (isNumbers r v)))
def M_is_shot (ds : List PD) (o : PO) : Prop := ∃ r v, Ru.ok r ∧ ds = [eRu r, v] ∧ o = .ok (.va (.bool (isShot r v)))
def M_good_shots (ds : List PD) (o : PO) : Prop := ∃ r v, Ru.ok r ∧ ds = [eRu r, v] ∧ o = .ok (.va (.bool (isShots r v)))
def M_is_shots (ds : List PD) (o : PO) : Prop := ∃ d v, ds = [d, v] ∧ ((isRule d = false ∧ o = .ex "InvalidRule" none) ∨ ∃ r, Ru.ok r ∧ d = eRu r ∧ o = .ok (.va (.bool (isShots r v))))
def M_require_shots (ds : List PD) (o : PO) : Prop := ∃ d v, ds = [d, v] ∧ ((isRule d = false ∧ o = .ex "InvalidRule" none) ∨ ∃ r, Ru.ok r ∧ d = eRu r ∧ o = if isShots r v then .ok (.va .none) else .ex "InvalidShots" none)
def M_require_index (ds : List PD) (o : PO) : Prop := ∃ (ss : List Shot) (v : PD), ds = [eShots ss, v] ∧ o = if isI v 0 (ss.length - 1) then .ok (.va .none) else .ex "InvalidIndex" none
def M_own_range (ds : List PD) (o : PO) : Prop := ∃ r t x, Ru.ok r ∧ 0 < t ∧ t ≤ 1000000 ∧ ds = [eRu r, .int t, eOI x] ∧ o = .ok (.va (eOp (ownR r t x)))
def M_ranges_of (ds : List PD) (o : PO) : Prop := ∃ (r : Ru) (n : Nat) (ss : List Shot), r.ok ∧ ss.length ≤ 100 ∧ (∀ s ∈ ss, 1 ≤ s.1 ∧ s.1 ≤ 1000000 ∧ s.2.length = n) ∧ n ≤ 100 ∧ ds = [eRu r, eShots ss] ∧ o = .ok (.ow (.lst ((rngs r ss).map eRow)))
def M_own_ranges (ds : List PD) (o : PO) : Prop := ∃ d v, ds = [d, v] ∧ ((isRule d = false ∧ o = .ex "InvalidRule" none) ∨ (∃ r, Ru.ok r ∧ d = eRu r ∧ isShots r v = false ∧ o = .ex "InvalidShots" none) ∨
  ∃ r n ss, GoodS r n ss ∧ d = eRu r ∧ v = eShots ss ∧ o = .ok (.ow (.lst ((rngs r ss).map eRow))))
section
variable {r : Ru} {v d : PD} {n : Nat} {ss : List Shot} {x : Num} {t : Int}
theorem m_are_numbers (h : r.ok) : M_are_numbers [eRu r, v] (.ok (.va (.bool (isNumbers r v)))) := ⟨r, v, h, rfl, rfl⟩
theorem m_is_shot (h : r.ok) : M_is_shot [eRu r, v] (.ok (.va (.bool (isShot r v)))) := ⟨r, v, h, rfl, rfl⟩
theorem m_good_shots (h : r.ok) : M_good_shots [eRu r, v] (.ok (.va (.bool (isShots r v)))) := ⟨r, v, h, rfl, rfl⟩
theorem m_is_shots (h : r.ok) : M_is_shots [eRu r, v] (.ok (.va (.bool (isShots r v)))) := ⟨_, v, rfl, .inr ⟨r, h, rfl, rfl⟩⟩
theorem m_require_shots (G : GoodS r n ss) : M_require_shots [eRu r, eShots ss] (.ok (.va .none)) := ⟨_, _, rfl, .inr ⟨r, G.rule, rfl, by rw [isShots_e G]; rfl⟩⟩
theorem m_require_shotsX (h : r.ok) (h1 : isShots r v = false) : M_require_shots [eRu r, v] (.ex "InvalidShots" none) := ⟨_, _, rfl, .inr ⟨r, h, rfl, by rw [h1]; rfl⟩⟩
theorem m_require_shotsR (h : isRule d = false) : M_require_shots [d, v] (.ex "InvalidRule" none) := ⟨_, _, rfl, .inl ⟨h, rfl⟩⟩
theorem m_require_index (h : isI v 0 (ss.length - 1) = true) : M_require_index [eShots ss, v] (.ok (.va .none)) := ⟨ss, v, rfl, by rw [h]; rfl⟩
theorem m_require_indexX (h : isI v 0 (ss.length - 1) = false) : M_require_index [eShots ss, v] (.ex "InvalidIndex" none) := ⟨ss, v, rfl, by rw [h]; rfl⟩
theorem m_own_range (h : r.ok) (h1 : 0 < t) (h2 : t ≤ 1000000) : M_own_range [eRu r, .int t, eOI x] (.ok (.va (eOp (ownR r t x)))) := ⟨r, t, x, h, h1, h2, rfl, rfl⟩
theorem m_ranges_of (G : GoodS r n ss) : M_ranges_of [eRu r, eShots ss] (.ok (.ow (.lst ((rngs r ss).map eRow)))) := ⟨r, n, ss, G.rule, by have := G.cnt.2; omega, fun s hs => ⟨(G.tot s hs).1, (G.tot s hs).2, G.len s hs⟩, by have := G.wide.2; omega, rfl, rfl⟩
theorem m_own_ranges (G : GoodS r n ss) : M_own_ranges [eRu r, eShots ss] (.ok (.ow (.lst ((rngs r ss).map eRow)))) := ⟨_, _, rfl, .inr (.inr ⟨r, n, ss, G, rfl, rfl, rfl⟩)⟩
end
end Pj

set_option Elab.async false
set_option linter.all false
set_option maxRecDepth 100000
/-! Pq: histories as plain functions. -/
namespace Pj
open PySem PySem.Spec PyProof.Rows L2
/-! ### the program's own computations -/
def stair (g : Int → Int → Int) : List Int → List (List Int) → List (List Int)
  | _, [] => []
  | prev, r :: rs => List.zipWith g r prev :: stair g (List.zipWith g r prev) rs
def stairs (g : Int → Int → Int) : List (List Int) → List (List Int)
  | [] => []
  | r :: rs => r :: stair g r rs
def lowsM (ps : List (List (Int × Int))) : List (List Int) := stairs max (ps.map (·.map (·.1)))
def highsM (ps : List (List (Int × Int))) : List (List Int) := (stairs min (ps.reverse.map (·.map (·.2)))).reverse
def allLe (a b : List Int) : Bool := (List.zipWith (fun x y => decide (x ≤ y)) a b).all id
def sureM (a b : List Int) : Int := (List.zipWith (fun x y => max 0 (x - y)) a b).sum
def okAt (ts : List Int) (L H : List (List Int)) (l : Nat) : Bool :=
  allLe (L.getD l []) (H.getD l []) && (decide ((L.getD l []).sum ≤ ts.getD l 0) && decide (ts.getD l 0 ≤ (H.getD l []).sum)) && (List.range l).all fun e => decide (sureM (L.getD l []) (H.getD e []) ≤ ts.getD l 0 - ts.getD e 0)
def fitsP (ts : List Int) (ps : List (List (Int × Int))) : Bool := (List.range ts.length).all (okAt ts (lowsM ps) (highsM ps))
def hasNone (rs : List (List Rng)) : Bool := rs.any fun row => row.any Option.isNone
def unR (x : Rng) : Int × Int := x.getD (0, 0)
def unRs (rs : List (List Rng)) : List (List (Int × Int)) := rs.map (·.map unR)
def fitsM (ts : List Int) (rs : List (List Rng)) : Bool := !hasNone rs && fitsP ts (unRs rs)
def narR (p : Int × Int) (lo hi : Int) : Rng := if max p.1 lo ≤ min p.2 hi then some (max p.1 lo, min p.2 hi) else none
def rAt (rs : List (List Rng)) (i o : Nat) : Rng := (rs.getD i []).getD o none
def narrowM (rs : List (List Rng)) (i o : Nat) (lo hi : Int) : List (List Rng) := rs.set i ((rs.getD i []).set o (narR (unR (rAt rs i o)) lo hi))
def smallM (ts : List Int) (rs : List (List Rng)) (i o : Nat) : Int := lowest (fun m => fitsM ts (narrowM rs i o 0 m)) (unR (rAt rs i o)).1 (unR (rAt rs i o)).2
def bsHigh2 (p : Int → Int → Bool) (s : Int × Int) : Int × Int := if p ((s.1 + s.2 + 1) / 2) s.2 then ((s.1 + s.2 + 1) / 2, s.2) else (s.1, (s.1 + s.2 + 1) / 2 - 1)
def largeM (ts : List Int) (rs : List (List Rng)) (i o : Nat) : Int := (runW openB (bsHigh2 fun m h => fitsM ts (narrowM rs i o m h)) ((unR (rAt rs i o)).2 - (unR (rAt rs i o)).1).toNat ((unR (rAt rs i o)).1, (unR (rAt rs i o)).2)).1
/-- n options at each of the screenshots -/
structure Shp (m n : Nat) (rs : List (List Rng)) : Prop where
  rows : rs.length = m
  wide : ∀ row ∈ rs, row.length = n
structure Siz (m n : Nat) : Prop where
  m1 : 1 ≤ m
  m2 : m ≤ 9
  n1 : 1 ≤ n
  n2 : n ≤ 6
def eTots (ts : List Int) : PD := .list (ts.map .int)
def eLst (xs : List Int) : PD := .list (xs.map .int)
def M_staircases (ds : List PD) (o : PO) : Prop := ∃ (m n : Nat) (ps : List (List (Int × Int))), Siz m n ∧ ps.length = m ∧ (∀ row ∈ ps, row.length = n) ∧ ds = [.list (ps.map fun row => .list (row.map ePr))] ∧ o = .ok (.va (.tuple [.list ((lowsM ps).map eLst), .list ((highsM ps).map eLst)]))
def M_fits (ds : List PD) (o : PO) : Prop := ∃ (m n : Nat) (ts : List Int) (rs : List (List Rng)), Siz m n ∧ Shp m n rs ∧ ts.length = m ∧ ds = [eTots ts, eRngs rs] ∧ o = .ok (.va (.bool (fitsM ts rs)))
def M_narrowed (ds : List PD) (o : PO) : Prop := ∃ (m n : Nat) (rs : List (List Rng)) (i k : Nat) (p : Int × Int) (lo hi : Int), Siz m n ∧ Shp m n rs ∧ i < m ∧ k < n ∧ rAt rs i k = some p ∧ ds = [eRngs rs, .int i, .int k, .int lo, .int hi] ∧ o = .ok (.ow (.lst ((narrowM rs i k lo hi).map eRow)))
def M_ext (g : List Int → List (List Rng) → Nat → Nat → Int) (ds : List PD) (o : PO) : Prop := ∃ (m n : Nat) (ts : List Int) (rs : List (List Rng)) (i k : Nat) (p : Int × Int), Siz m n ∧ Shp m n rs ∧ ts.length = m ∧ i < m ∧ k < n ∧ rAt rs i k = some p ∧ ds = [eTots ts, eRngs rs, .int i, .int k] ∧ o = .ok (.va (.int (g ts rs i k)))
def M_totals_of (ds : List PD) (o : PO) : Prop := ∃ ss : List Shot, ss.length ≤ 100 ∧ ds = [eShots ss] ∧ o = .ok (.ow (.lst (ss.map fun s => .int s.1)))
section
variable {m n i k : Nat} {ts : List Int} {rs : List (List Rng)} {p : Int × Int} {lo hi : Int} {ss : List Shot}
theorem m_fits (z : Siz m n) (s : Shp m n rs) (h : ts.length = m) : M_fits [eTots ts, eRngs rs] (.ok (.va (.bool (fitsM ts rs)))) := ⟨m, n, ts, rs, z, s, h, rfl, rfl⟩
theorem m_narrowed (z : Siz m n) (s : Shp m n rs) (hi1 : i < m) (hk : k < n) (hp : rAt rs i k = some p) : M_narrowed [eRngs rs, .int i, .int k, .int lo, .int hi] (.ok (.ow (.lst ((narrowM rs i k lo hi).map eRow)))) := ⟨m, n, rs, i, k, p, lo, hi, z, s, hi1, hk, hp, rfl, rfl⟩
theorem m_smallest (z : Siz m n) (s : Shp m n rs) (h : ts.length = m) (hi1 : i < m) (hk : k < n) (hp : rAt rs i k = some p) : M_ext smallM [eTots ts, eRngs rs, .int i, .int k] (.ok (.va (.int (smallM ts rs i k)))) := ⟨m, n, ts, rs, i, k, p, z, s, h, hi1, hk, hp, rfl, rfl⟩
theorem m_largest (z : Siz m n) (s : Shp m n rs) (h : ts.length = m) (hi1 : i < m) (hk : k < n) (hp : rAt rs i k = some p) : M_ext largeM [eTots ts, eRngs rs, .int i, .int k] (.ok (.va (.int (largeM ts rs i k)))) := ⟨m, n, ts, rs, i, k, p, z, s, h, hi1, hk, hp, rfl, rfl⟩
theorem m_totals_of (h : ss.length ≤ 100) : M_totals_of [eShots ss] (.ok (.ow (.lst (ss.map fun s => .int s.1)))) := ⟨ss, h, rfl, rfl⟩
end
theorem Shp.row {m n : Nat} {rs : List (List Rng)} (s : Shp m n rs) {i : Nat} (h : i < m) : rs.getD i [] ∈ rs ∧ (rs.getD i []).length = n ∧ rs[i]? = some (rs.getD i []) := by
  have h' : i < rs.length := by rw [s.rows]; exact h
  have e : rs.getD i [] = rs[i] := by rw [List.getD_eq_getElem?_getD, List.getElem?_eq_getElem h']; rfl
  rw [e]
  exact ⟨List.getElem_mem h', s.wide _ (List.getElem_mem h'), List.getElem?_eq_getElem h'⟩
theorem Shp.at {m n : Nat} {rs : List (List Rng)} (s : Shp m n rs) {i k : Nat} (h : i < m) (hk : k < n) : (rs.getD i [])[k]? = some (rAt rs i k) := by
  obtain ⟨_, l, _⟩ := s.row h
  unfold rAt
  generalize rs.getD i [] = row at *
  rw [List.getD_eq_getElem?_getD, List.getElem?_eq_getElem (show k < row.length by omega)]
  rfl
theorem Shp.nar {m n : Nat} {rs : List (List Rng)} (s : Shp m n rs) {i k : Nat} {lo hi : Int} (h : i < m) : Shp m n (narrowM rs i k lo hi) := by
  unfold narrowM
  refine ⟨by rw [List.length_set]; exact s.rows, fun row hr => ?_⟩
  rcases List.mem_or_eq_of_mem_set hr with h1 | h1
  · exact s.wide row h1
  · rw [h1, List.length_set]
    exact (s.row h).2.1
/-- one more row of a staircase -/
def stairStep {α : Type} (g : Int → Int → Int) (own : α → List Int) (acc : List (List Int)) (row : α) : List (List Int) :=
  acc ++ [match acc.getLast? with
    | none => own row
    | some last => List.zipWith g (own row) last]
theorem stair_fold {α : Type} (g : Int → Int → Int) (own : α → List Int) : ∀ (l : List α) (acc : List (List Int)) (last : List Int), acc.getLast? = some last → l.foldl (stairStep g own) acc = acc ++ stair g last (l.map own)
  | [], acc, last, _ => by simp [stair]
  | a :: l, acc, last, h => by
    rw [List.foldl_cons]
    have e : stairStep g own acc a = acc ++ [List.zipWith g (own a) last] := by unfold stairStep; rw [h]
    rw [e, stair_fold g own l _ (List.zipWith g (own a) last) (by simp), List.map_cons, show stair g last (own a :: l.map own) = List.zipWith g (own a) last :: stair g (List.zipWith g (own a) last) (l.map own) from rfl]
    simp
theorem stairs_fold {α : Type} (g : Int → Int → Int) (own : α → List Int) (l : List α) : l.foldl (stairStep g own) [] = stairs g (l.map own) := by
  cases l with
  | nil => rfl
  | cons a l =>
    rw [List.foldl_cons]
    show l.foldl (stairStep g own) [own a] = _
    rw [stair_fold g own l _ (own a) rfl]
    rfl
theorem stair_len (g : Int → Int → Int) : ∀ (prev : List Int) (rs : List (List Int)), (stair g prev rs).length = rs.length
  | _, [] => rfl
  | prev, r :: rs => by
    show (List.zipWith g r prev :: stair g (List.zipWith g r prev) rs).length = _
    rw [List.length_cons, List.length_cons, stair_len g _ rs]
theorem stairs_len (g : Int → Int → Int) (rs : List (List Int)) : (stairs g rs).length = rs.length := by
  cases rs with
  | nil => rfl
  | cons r rs =>
    show (r :: stair g r rs).length = _
    rw [List.length_cons, List.length_cons, stair_len]
theorem stair_wide (g : Int → Int → Int) {n : Nat} : ∀ (prev : List Int) (rs : List (List Int)), prev.length = n → (∀ r ∈ rs, r.length = n) → ∀ x ∈ stair g prev rs, x.length = n
  | _, [], _, _, x, h => by cases h
  | prev, r :: rs, hp, hr, x, h => by
    have l : (List.zipWith g r prev).length = n := by
      have := hr r List.mem_cons_self
      rw [List.length_zipWith]; omega
    rcases List.mem_cons.mp (show x ∈ List.zipWith g r prev :: stair g (List.zipWith g r prev) rs from h) with e | e
    · rw [e]; exact l
    · exact stair_wide g _ rs l (fun q hq => hr q (List.mem_cons_of_mem _ hq)) x e
theorem stairs_wide (g : Int → Int → Int) {n : Nat} {rs : List (List Int)} (hr : ∀ r ∈ rs, r.length = n) : ∀ x ∈ stairs g rs, x.length = n := by
  cases rs with
  | nil => intro x h; cases h
  | cons r rs =>
    intro x h
    have l := hr r List.mem_cons_self
    rcases List.mem_cons.mp (show x ∈ r :: stair g r rs from h) with e | e
    · rw [e]; exact l
    · exact stair_wide g r rs l (fun q hq => hr q (List.mem_cons_of_mem _ hq)) x e
theorem lowsM_len (ps : List (List (Int × Int))) : (lowsM ps).length = ps.length := by unfold lowsM; rw [stairs_len, List.length_map]
theorem highsM_len (ps : List (List (Int × Int))) : (highsM ps).length = ps.length := by unfold highsM; rw [List.length_reverse, stairs_len, List.length_map, List.length_reverse]
theorem lowsM_wide {ps : List (List (Int × Int))} {n : Nat} (h : ∀ r ∈ ps, r.length = n) : ∀ x ∈ lowsM ps, x.length = n := by
  unfold lowsM
  refine stairs_wide max fun r hr => ?_
  obtain ⟨q, hq, e⟩ := List.mem_map.mp hr
  rw [← e, List.length_map]; exact h q hq
theorem highsM_wide {ps : List (List (Int × Int))} {n : Nat} (h : ∀ r ∈ ps, r.length = n) : ∀ x ∈ highsM ps, x.length = n := fun x hx => by
  unfold highsM at hx
  refine stairs_wide min (fun r hr => ?_) x (List.mem_reverse.mp hx)
  obtain ⟨q, hq, e⟩ := List.mem_map.mp hr
  rw [← e, List.length_map]; exact h q (List.mem_reverse.mp hq)
theorem getD_mem {α : Type} {l : List α} {i : Nat} {d : α} (h : i < l.length) : l.getD i d ∈ l ∧ l[i]? = some (l.getD i d) := by
  have e : l.getD i d = l[i] := by rw [List.getD_eq_getElem?_getD, List.getElem?_eq_getElem h]; rfl
  rw [e]
  exact ⟨List.getElem_mem h, List.getElem?_eq_getElem h⟩
theorem at_map {α : Type} {l : List α} {f : α → PD} {i : Nat} {d : α} (h : i < l.length) : atI (l.map f) (i : Int) = some (f (l.getD i d)) := atI_nat (by rw [List.getElem?_map, (getD_mem (d := d) h).2]; rfl)
theorem findSome_all {α β : Type} (P : α → Bool) (x : β) : ∀ l : List α, l.findSome? (fun a => if P a then none else some x) = if l.all P then none else some x
  | [] => rfl
  | a :: l => by
    rw [List.findSome?_cons, List.all_cons]
    cases h : P a with
    | true => rw [if_pos rfl, Bool.true_and]; exact findSome_all P x l
    | false => rw [if_neg Bool.false_ne_true, Bool.false_and]; rfl
theorem unRs_e {rs : List (List Rng)} (h : hasNone rs = false) : rs.map eRow = (unRs rs).map fun row => .list (row.map ePr) := by
  unfold unRs
  rw [List.map_map]
  apply List.map_congr_left
  intro row hr
  show PyData.list _ = .list ((row.map unR).map ePr)
  rw [List.map_map]
  congr 1
  apply List.map_congr_left
  intro x hx
  cases x with
  | some p => rfl
  | none =>
    have : hasNone rs = true := List.any_eq_true.mpr ⟨row, hr, List.any_eq_true.mpr ⟨none, hx, rfl⟩⟩
    rw [h] at this
    cases this
theorem shOp (x : Rng) : ShD 2 (eOp x) := by
  cases x with
  | none => exact shN.mono (by decide)
  | some p => exact shT2 shI shI
theorem shRow (row : List Rng) : ShD 3 (eRow row) := shLm fun x _ => shOp x
theorem none_row (row : List Rng) : ((row.map eOp).any fun y => PyData.eqv y .none) = row.any Option.isNone := by
  rw [any_none, List.any_map]
  congr 1
  funext x
  cases x <;> rfl
theorem zw_any (a b : List Int) : ((a.zip b).any fun p => decide (p.2 < p.1)) = !allLe a b := by
  unfold allLe
  rw [← zip_zw, List.all_map, List.not_all_eq_any_not]
  congr 1
  funext p
  simp only [Function.comp, id]
  rw [← decide_not]
  exact decide_eq_decide.mpr (by omega)
theorem zw_sure (a b : List Int) : ((a.zip b).map fun p => max 0 (p.1 - p.2)) = List.zipWith (fun x y => max 0 (x - y)) a b := zip_zw (fun x y => max 0 (x - y)) a b
theorem all_zipIdx {α : Type} (P : Nat → Bool) (l : List α) : (l.zipIdx.all fun p => P p.2) = (List.range l.length).all P := by
  have : l.zipIdx.map (·.2) = List.range l.length := by rw [List.range_eq_range']; exact List.zipIdx_map_snd 0 l
  rw [← this, List.all_map]
  rfl
theorem bsHigh2_ms {p : Int → Int → Bool} {s : Int × Int} (h : openB s = true) : ((bsHigh2 p s).2 - (bsHigh2 p s).1).toNat < (s.2 - s.1).toNat := by
  have h' : s.1 < s.2 := of_decide_eq_true h
  unfold bsHigh2
  split <;> (dsimp only; omega)
theorem foldl_app {α β : Type} (f : α → β) : ∀ (l : List α) (acc : List β), l.foldl (fun acc a => acc ++ [f a]) acc = acc ++ l.map f
  | [], acc => by simp
  | a :: l, acc => by rw [List.foldl_cons, foldl_app f l, List.map_cons]; simp
end Pj

set_option linter.all false
/-! Pt: the plain law of histories: conditions on lows and highs, and a history. -/
namespace Pj
def sumN : Nat → (Nat → Int) → Int
  | 0, _ => 0
  | n + 1, f => sumN n f + f n
theorem sumN_le {n : Nat} {f g : Nat → Int} (h : ∀ k, k < n → f k ≤ g k) : sumN n f ≤ sumN n g := by
  induction n with
  | zero => exact Int.le_refl _
  | succ n ih =>
    have := ih fun k hk => h k (by omega)
    have := h n (by omega)
    show sumN n f + f n ≤ sumN n g + g n
    omega
theorem sumN_eq {n : Nat} {f g : Nat → Int} (h : ∀ k, k < n → f k = g k) : sumN n f = sumN n g := by
  induction n with
  | zero => rfl
  | succ n ih =>
    have := ih fun k hk => h k (by omega)
    have := h n (by omega)
    show sumN n f + f n = sumN n g + g n
    omega
theorem sumN_add {n : Nat} {f g : Nat → Int} : sumN n (fun k => f k + g k) = sumN n f + sumN n g := by
  induction n with
  | zero => rfl
  | succ n ih =>
    show sumN n (fun k => f k + g k) + (f n + g n) = sumN n f + f n + (sumN n g + g n)
    omega
theorem sumN_sub {n : Nat} {f g : Nat → Int} : sumN n (fun k => f k - g k) = sumN n f - sumN n g := by
  induction n with
  | zero => rfl
  | succ n ih =>
    show sumN n (fun k => f k - g k) + (f n - g n) = sumN n f + f n - (sumN n g + g n)
    omega
/-- a tuple between two with a given sum -/
theorem between {n : Nat} : ∀ {a b : Nat → Int} {S : Int}, (∀ k, k < n → a k ≤ b k) → sumN n a ≤ S → S ≤ sumN n b → ∃ v : Nat → Int, (∀ k, k < n → a k ≤ v k ∧ v k ≤ b k) ∧ sumN n v = S := by
  induction n with
  | zero =>
    intro a b S h h1 h2
    have e1 : sumN 0 a = 0 := rfl
    have e2 : sumN 0 b = 0 := rfl
    exact ⟨a, fun k hk => absurd hk (Nat.not_lt_zero k), by show (0 : Int) = S; omega⟩
  | succ n ih =>
    intro a b S h h1 h2
    have e1 : sumN (n + 1) a = sumN n a + a n := rfl
    have e2 : sumN (n + 1) b = sumN n b + b n := rfl
    have hn := h n (by omega)
    have le := sumN_le (n := n) fun k hk => h k (by omega)
    -- the last one as large as may be
    let x := min (b n) (S - sumN n a)
    obtain ⟨v, v1, v2⟩ := ih (a := a) (b := b) (S := S - x) (fun k hk => h k (by omega)) (by show sumN n a ≤ S - min (b n) (S - sumN n a); omega) (by show S - min (b n) (S - sumN n a) ≤ sumN n b; omega)
    refine ⟨fun k => if k = n then x else v k, fun k hk => ?_, ?_⟩
    · show a k ≤ (if k = n then x else v k) ∧ (if k = n then x else v k) ≤ b k
      by_cases e : k = n
      · subst e
        rw [if_pos rfl]
        show a k ≤ min (b k) (S - sumN k a) ∧ min (b k) (S - sumN k a) ≤ b k
        omega
      · rw [if_neg e]
        exact v1 k (by omega)
    · have : sumN n (fun k => if k = n then x else v k) = sumN n v := sumN_eq fun k hk => if_neg (by omega)
      show sumN n (fun k => if k = n then x else v k) + (if n = n then x else v n) = S
      rw [this, v2, if_pos rfl]
      omega
theorem step_at {B : Nat → Int} {S : Int} : ∀ {m : Nat}, 1 ≤ m → B 0 ≤ S → S ≤ B m → ∃ s, s < m ∧ B s ≤ S ∧ S ≤ B (s + 1)
  | m + 1, _, h0, h1 => by
    by_cases hm : m = 0
    · subst hm
      exact ⟨0, by omega, h0, h1⟩
    · by_cases c : B m ≤ S
      · exact ⟨m, by omega, c, h1⟩
      · obtain ⟨s, a, b, d⟩ := step_at (m := m) (by omega) h0 (by omega)
        exact ⟨s, by omega, b, d⟩
/-- what must hold of the lows L, the highs H and the totals T of m screenshots with n options -/
structure Cnd (m n : Nat) (T : Nat → Int) (L H : Nat → Nat → Int) : Prop where
  lh : ∀ t k, t < m → k < n → L t k ≤ H t k
  low : ∀ t, t < m → sumN n (L t) ≤ T t
  high : ∀ t, t < m → T t ≤ sumN n (H t)
  grow : ∀ t e, t < m → e < t → sumN n (fun k => max 0 (L t k - H e k)) ≤ T t - T e
structure Mono (m n : Nat) (L : Nat → Nat → Int) : Prop where
  up : ∀ t u k, t ≤ u → u < m → k < n → L t k ≤ L u k
structure Vts (m n : Nat) (T : Nat → Int) (L H v : Nat → Nat → Int) : Prop where
  lo : ∀ t k, t < m → k < n → L t k ≤ v t k
  hi : ∀ t k, t < m → k < n → v t k ≤ H t k
  sum : ∀ t, t < m → sumN n (v t) = T t
  up : ∀ t k, t + 1 < m → k < n → v t k ≤ v (t + 1) k
theorem Vts.mono {m n : Nat} {T : Nat → Int} {L H v : Nat → Nat → Int} (V : Vts m n T L H v) : Mono m n v := by
  refine ⟨fun t u k htu hu hk => ?_⟩
  induction u with
  | zero => rw [show t = 0 by omega]; exact Int.le_refl _
  | succ u ih =>
    by_cases e : t = u + 1
    · subst e; exact Int.le_refl _
    · have := ih (by omega) (by omega)
      have := V.up u k (by omega) hk
      omega
/-- a history keeps the conditions -/
theorem Vts.cnd {m n : Nat} {T : Nat → Int} {L H v : Nat → Nat → Int} (V : Vts m n T L H v) : Cnd m n T L H := by
  refine ⟨fun t k ht hk => Int.le_trans (V.lo t k ht hk) (V.hi t k ht hk), fun t ht => ?_, fun t ht => ?_, fun t e ht he => ?_⟩
  · rw [← V.sum t ht]; exact sumN_le fun k hk => V.lo t k ht hk
  · rw [← V.sum t ht]; exact sumN_le fun k hk => V.hi t k ht hk
  · rw [← V.sum t ht, ← V.sum e (by omega), ← sumN_sub]
    refine sumN_le fun k hk => ?_
    have a := V.lo t k ht hk
    have b := V.hi e k (by omega) hk
    have c := V.mono.up e t k (by omega) ht hk
    omega
/-- the conditions give a history -/
theorem Cnd.vts {n : Nat} : ∀ {m : Nat} {T : Nat → Int} {L H : Nat → Nat → Int}, Cnd m n T L H → Mono m n L → Mono m n H → ∃ v, Vts m n T L H v
  | 0, T, L, H, _, _, _ => ⟨L, fun t k h => absurd h (Nat.not_lt_zero t), fun t k h => absurd h (Nat.not_lt_zero t), fun t h => absurd h (Nat.not_lt_zero t), fun t k h => absurd h (Nat.not_lt_zero _)⟩
  | m + 1, T, L, H, C, ML, MH => by
    let b : Nat → Nat → Int := fun t k => if t ≤ m then min (H 0 k) (L t k) else H 0 k
    have b0 : ∀ k, k < n → b 0 k = L 0 k := fun k hk => by
      have := C.lh 0 k (by omega) hk
      show (if 0 ≤ m then min (H 0 k) (L 0 k) else H 0 k) = L 0 k
      rw [if_pos (by omega)]; omega
    have bm : ∀ k, b (m + 1) k = H 0 k := fun k => by
      show (if m + 1 ≤ m then _ else _) = _
      rw [if_neg (by omega)]
    obtain ⟨s, s1, s2, s3⟩ := step_at (B := fun t => sumN n (b t)) (S := T 0) (m := m + 1) (by omega) (by
      show sumN n (b 0) ≤ T 0
      rw [sumN_eq b0]; exact C.low 0 (by omega)) (by
      show T 0 ≤ sumN n (b (m + 1))
      rw [sumN_eq fun k _ => bm k]; exact C.high 0 (by omega))
    have bup : ∀ t u k, t ≤ u → k < n → b t k ≤ b u k := fun t u k htu hk => by
      show (if t ≤ m then min (H 0 k) (L t k) else H 0 k) ≤ (if u ≤ m then min (H 0 k) (L u k) else H 0 k)
      by_cases hu : u ≤ m
      · rw [if_pos hu, if_pos (by omega)]
        have := ML.up t u k htu (by omega) hk
        omega
      · rw [if_neg hu]
        split <;> omega
    obtain ⟨w, w1, w2⟩ := between (n := n) (a := b s) (b := b (s + 1)) (S := T 0) (fun k hk => bup s (s + 1) k (by omega) hk) s2 s3
    have wH : ∀ k, k < n → w k ≤ H 0 k := fun k hk => by
      have := (w1 k hk).2
      have := bup (s + 1) (m + 1) k (by omega) hk
      rw [bm] at this
      omega
    have wL : ∀ k, k < n → L 0 k ≤ w k := fun k hk => by
      have := (w1 k hk).1
      have := bup 0 s k (by omega) hk
      rw [b0 k hk] at this
      omega
    -- the rest, no lower than w
    let L' : Nat → Nat → Int := fun t k => max (L (t + 1) k) (w k)
    let H' : Nat → Nat → Int := fun t k => H (t + 1) k
    have C' : Cnd m n (fun t => T (t + 1)) L' H' := by
      refine ⟨fun t k ht hk => ?_, fun t ht => ?_, fun t ht => C.high (t + 1) (by omega), fun t e ht he => ?_⟩
      · have a := C.lh (t + 1) k (by omega) hk
        have c := MH.up 0 (t + 1) k (by omega) (by omega) hk
        have d := wH k hk
        show max (L (t + 1) k) (w k) ≤ H (t + 1) k
        omega
      · show sumN n (fun k => max (L (t + 1) k) (w k)) ≤ T (t + 1)
        by_cases c : t + 1 ≤ s
        · have g := C.grow (t + 1) 0 (by omega) (by omega)
          have e1 : sumN n (fun k => max (L (t + 1) k) (w k)) = sumN n (fun k => max 0 (L (t + 1) k - H 0 k)) + sumN n w := by
            rw [← sumN_add]
            refine sumN_eq fun k hk => ?_
            have a1 := (w1 k hk).1
            have a2 := bup (t + 1) s k c hk
            have a3 : b (t + 1) k = min (H 0 k) (L (t + 1) k) := if_pos (by omega)
            have a4 := wH k hk
            rw [a3] at a2
            omega
          rw [e1, w2]
          omega
        · have e1 : sumN n (fun k => max (L (t + 1) k) (w k)) = sumN n (L (t + 1)) := sumN_eq fun k hk => by
            have a1 := (w1 k hk).2
            have a2 := bup (s + 1) (t + 1) k (by omega) hk
            have a3 : b (t + 1) k = min (H 0 k) (L (t + 1) k) := if_pos (by omega)
            rw [a3] at a2
            omega
          rw [e1]
          exact C.low (t + 1) (by omega)
      · have g := C.grow (t + 1) (e + 1) (by omega) (by omega)
        have e1 : sumN n (fun k => max 0 (L' t k - H' e k)) = sumN n (fun k => max 0 (L (t + 1) k - H (e + 1) k)) := sumN_eq fun k hk => by
          have d := wH k hk
          have c := MH.up 0 (e + 1) k (by omega) (by omega) hk
          show max 0 (max (L (t + 1) k) (w k) - H (e + 1) k) = _
          omega
        rw [e1]
        exact g
    have ML' : Mono m n L' := ⟨fun t u k htu hu hk => by
      have := ML.up (t + 1) (u + 1) k (by omega) (by omega) hk
      show max (L (t + 1) k) (w k) ≤ max (L (u + 1) k) (w k)
      omega⟩
    have MH' : Mono m n H' := ⟨fun t u k htu hu hk => MH.up (t + 1) (u + 1) k (by omega) (by omega) hk⟩
    obtain ⟨v, V⟩ := Cnd.vts C' ML' MH'
    refine ⟨fun t => if t = 0 then w else v (t - 1), fun t k ht hk => ?_, fun t k ht hk => ?_, fun t ht => ?_, fun t k ht hk => ?_⟩
    · cases t with
      | zero => exact wL k hk
      | succ t =>
        have : max (L (t + 1) k) (w k) ≤ v t k := V.lo t k (by omega) hk
        show L (t + 1) k ≤ v t k
        omega
    · cases t with
      | zero => exact wH k hk
      | succ t => exact V.hi t k (by omega) hk
    · cases t with
      | zero => exact w2
      | succ t => exact V.sum t (by omega)
    · cases t with
      | zero =>
        have : max (L (0 + 1) k) (w k) ≤ v 0 k := V.lo 0 k (by omega) hk
        show w k ≤ v 0 k
        omega
      | succ t => exact V.up t k (by omega) hk
end Pj

set_option Elab.async false
set_option linter.all false
set_option maxRecDepth 100000
/-! Pu: fits, smallest and largest by the plain law. -/
namespace Pj
open PySem PySem.Spec PyProof.Rows L2
/-! ### lists as functions -/
theorem sumN_head : ∀ (n : Nat) (f : Nat → Int), sumN (n + 1) f = f 0 + sumN n fun k => f (k + 1)
  | 0, f => by show 0 + f 0 = f 0 + 0; omega
  | n + 1, f => by
    have := sumN_head n f
    show sumN (n + 1) f + f (n + 1) = f 0 + (sumN n (fun k => f (k + 1)) + f (n + 1))
    omega
theorem sum_sumN : ∀ l : List Int, l.sum = sumN l.length fun k => l.getD k 0
  | [] => rfl
  | a :: l => by
    rw [List.sum_cons, List.length_cons, sumN_head, sum_sumN l]
    rfl
theorem getD_zw {g : Int → Int → Int} {a b : List Int} {k : Nat} (ha : k < a.length) (hb : k < b.length) : (List.zipWith g a b).getD k 0 = g (a.getD k 0) (b.getD k 0) := by
  have e : ∀ (l : List Int) (h : k < l.length), l.getD k 0 = l[k] := fun l h => by rw [List.getD_eq_getElem?_getD, List.getElem?_eq_getElem h]; rfl
  rw [e a ha, e b hb, e _ (by rw [List.length_zipWith]; omega), List.getElem_zipWith]
def mat (L : List (List Int)) (t k : Nat) : Int := (L.getD t []).getD k 0
def runG (g : Int → Int → Int) (f : Nat → Nat → Int) : Nat → Nat → Int
  | 0, k => f 0 k
  | t + 1, k => g (f (t + 1) k) (runG g f t k)
theorem mat_stair {g : Int → Int → Int} {n : Nat} : ∀ {rs : List (List Int)} {prev : List Int}, prev.length = n → (∀ r ∈ rs, r.length = n) → ∀ t k, t < rs.length → k < n → mat (stair g prev rs) t k = runG g (mat (prev :: rs)) (t + 1) k
  | [], prev, _, _, t, k, ht, _ => absurd ht (Nat.not_lt_zero t)
  | r :: rs, prev, hp, hr, t, k, ht, hk => by
    have lr := hr r List.mem_cons_self
    have lz : (List.zipWith g r prev).length = n := by rw [List.length_zipWith]; omega
    cases t with
    | zero =>
      show (List.zipWith g r prev).getD k 0 = g (r.getD k 0) (prev.getD k 0)
      exact getD_zw (by omega) (by omega)
    | succ t =>
      have ih := mat_stair (g := g) lz (fun q hq => hr q (List.mem_cons_of_mem _ hq)) t k (by simpa using ht) hk
      have e1 : mat (stair g prev (r :: rs)) (t + 1) k = mat (stair g (List.zipWith g r prev) rs) t k := rfl
      rw [e1, ih]
      -- the first two rows taken together
      have key : ∀ t, runG g (mat (List.zipWith g r prev :: rs)) t k = runG g (mat (prev :: r :: rs)) (t + 1) k := fun t => by
        induction t with
        | zero =>
          show (List.zipWith g r prev).getD k 0 = g (r.getD k 0) (prev.getD k 0)
          exact getD_zw (by omega) (by omega)
        | succ t ih2 =>
          show g (mat (List.zipWith g r prev :: rs) (t + 1) k) (runG g _ t k) = g (mat (prev :: r :: rs) (t + 1 + 1) k) (runG g _ (t + 1) k)
          rw [ih2]
          rfl
      exact key (t + 1)
theorem mat_stairs {g : Int → Int → Int} {n : Nat} {rs : List (List Int)} (hr : ∀ r ∈ rs, r.length = n) {t k : Nat} (ht : t < rs.length) (hk : k < n) : mat (stairs g rs) t k = runG g (mat rs) t k := by
  cases rs with
  | nil => exact absurd ht (Nat.not_lt_zero t)
  | cons r rs =>
    cases t with
    | zero => rfl
    | succ t =>
      have := mat_stair (g := g) (hr r List.mem_cons_self) (fun q hq => hr q (List.mem_cons_of_mem _ hq)) t k (by simpa using ht) hk
      exact this
theorem runG_max {f : Nat → Nat → Int} {k : Nat} : ∀ {t s : Nat}, s ≤ t → f s k ≤ runG max f t k
  | 0, s, h => by rw [show s = 0 by omega]; exact Int.le_refl _
  | t + 1, s, h => by
    show f s k ≤ max (f (t + 1) k) (runG max f t k)
    by_cases e : s = t + 1
    · subst e; omega
    · have := runG_max (f := f) (k := k) (show s ≤ t by omega)
      omega
theorem runG_max_le {f : Nat → Nat → Int} {k : Nat} {x : Int} : ∀ {t : Nat}, (∀ s, s ≤ t → f s k ≤ x) → runG max f t k ≤ x
  | 0, h => h 0 (Nat.le_refl _)
  | t + 1, h => by
    have := runG_max_le (t := t) fun s hs => h s (by omega)
    have := h (t + 1) (Nat.le_refl _)
    show max (f (t + 1) k) (runG max f t k) ≤ x
    omega
theorem runG_min {f : Nat → Nat → Int} {k : Nat} : ∀ {t s : Nat}, s ≤ t → runG min f t k ≤ f s k
  | 0, s, h => by rw [show s = 0 by omega]; exact Int.le_refl _
  | t + 1, s, h => by
    show min (f (t + 1) k) (runG min f t k) ≤ f s k
    by_cases e : s = t + 1
    · subst e; omega
    · have := runG_min (f := f) (k := k) (show s ≤ t by omega)
      omega
theorem runG_min_le {f : Nat → Nat → Int} {k : Nat} {x : Int} : ∀ {t : Nat}, (∀ s, s ≤ t → x ≤ f s k) → x ≤ runG min f t k
  | 0, h => h 0 (Nat.le_refl _)
  | t + 1, h => by
    have := runG_min_le (t := t) fun s hs => h s (by omega)
    have := h (t + 1) (Nat.le_refl _)
    show x ≤ min (f (t + 1) k) (runG min f t k)
    omega
theorem mat_map {α : Type} {ps : List (List α)} {f : α → Int} {d : α} {t k : Nat} (ht : t < ps.length) (hk : k < (ps.getD t []).length) : mat (ps.map (·.map f)) t k = f ((ps.getD t []).getD k d) := by
  unfold mat
  have e1 : (ps.map (·.map f)).getD t [] = (ps.getD t []).map f := by
    rw [List.getD_eq_getElem?_getD, List.getElem?_map, (getD_mem (d := []) ht).2]; rfl
  rw [e1, List.getD_eq_getElem?_getD, List.getElem?_map, (getD_mem (d := d) hk).2]
  rfl
/-! ### the conditions of fits -/
section
variable {m n : Nat} {ps : List (List (Int × Int))}
theorem low_lt (lp : ps.length = m) (wp : ∀ r ∈ ps, r.length = n) {t k : Nat} (ht : t < m) (hk : k < n) : mat (lowsM ps) t k = runG max (mat (ps.map (·.map (·.1)))) t k := by
  unfold lowsM
  refine mat_stairs (n := n) (fun r hr => ?_) (by rw [List.length_map]; omega) hk
  obtain ⟨q, hq, e⟩ := List.mem_map.mp hr
  rw [← e, List.length_map]; exact wp q hq
theorem high_lt (lp : ps.length = m) (wp : ∀ r ∈ ps, r.length = n) {t k : Nat} (ht : t < m) (hk : k < n) : mat (highsM ps) t k = runG min (mat (ps.reverse.map (·.map (·.2)))) (m - 1 - t) k := by
  have e : mat (highsM ps) t k = mat (stairs min (ps.reverse.map (·.map (·.2)))) (m - 1 - t) k := by
    unfold highsM mat
    have l : (stairs min (ps.reverse.map (·.map (·.2)))).length = m := by rw [stairs_len, List.length_map, List.length_reverse, lp]
    congr 1
    rw [List.getD_eq_getElem?_getD, List.getElem?_reverse (by omega), l, List.getD_eq_getElem?_getD]
  rw [e]
  refine mat_stairs (n := n) (fun r hr => ?_) (by rw [List.length_map, List.length_reverse]; omega) hk
  obtain ⟨q, hq, e⟩ := List.mem_map.mp hr
  rw [← e, List.length_map]; exact wp q (List.mem_reverse.mp hq)
theorem mat_rev (lp : ps.length = m) {t k : Nat} (ht : t < m) : mat (ps.reverse.map (·.map (·.2))) (m - 1 - t) k = mat (ps.map (·.map (·.2))) t k := by
  unfold mat
  congr 1
  rw [List.getD_eq_getElem?_getD, List.getD_eq_getElem?_getD, List.getElem?_map, List.getElem?_map, List.getElem?_reverse (by omega), lp, show m - 1 - (m - 1 - t) = t by omega]
end
theorem all_zw {a b : List Int} {n : Nat} (ha : a.length = n) (hb : b.length = n) : allLe a b = true ↔ ∀ k, k < n → a.getD k 0 ≤ b.getD k 0 := by
  unfold allLe
  rw [List.all_eq_true]
  have e : ∀ (l : List Int) k (h : k < l.length), l.getD k 0 = l[k] := fun l k h => by rw [List.getD_eq_getElem?_getD, List.getElem?_eq_getElem h]; rfl
  constructor
  · intro h k hk
    have hz : k < (List.zipWith (fun x y => decide (x ≤ y)) a b).length := by rw [List.length_zipWith]; omega
    have := h _ (List.getElem_mem hz)
    rw [List.getElem_zipWith] at this
    rw [e a k (by omega), e b k (by omega)]
    exact of_decide_eq_true this
  · intro h x hx
    obtain ⟨k, hk, ek⟩ := List.getElem_of_mem hx
    have hk' := hk
    rw [List.length_zipWith] at hk'
    rw [List.getElem_zipWith] at ek
    rw [← ek]
    have := h k (by omega)
    rw [e a k (by omega), e b k (by omega)] at this
    exact decide_eq_true this
theorem sure_sumN {a b : List Int} {n : Nat} (ha : a.length = n) (hb : b.length = n) : sureM a b = sumN n fun k => max 0 (a.getD k 0 - b.getD k 0) := by
  unfold sureM
  rw [sum_sumN, List.length_zipWith, ha, hb, Nat.min_self]
  exact sumN_eq fun k hk => getD_zw (g := fun x y => max 0 (x - y)) (by omega) (by omega)
theorem fitsP_iff {m n : Nat} {ts : List Int} {ps : List (List (Int × Int))} (lp : ps.length = m) (wp : ∀ r ∈ ps, r.length = n) (ht : ts.length = m) :
    fitsP ts ps = true ↔ Cnd m n (fun t => ts.getD t 0) (mat (lowsM ps)) (mat (highsM ps)) := by
  have Lm := lowsM_len ps
  have Hm := highsM_len ps
  have Lw : ∀ t, t < m → ((lowsM ps).getD t []).length = n := fun t h => lowsM_wide wp _ (getD_mem (by omega)).1
  have Hw : ∀ t, t < m → ((highsM ps).getD t []).length = n := fun t h => highsM_wide wp _ (getD_mem (by omega)).1
  unfold fitsP
  rw [List.all_eq_true]
  have ok : ∀ t, t < m → (okAt ts (lowsM ps) (highsM ps) t = true ↔ (∀ k, k < n → mat (lowsM ps) t k ≤ mat (highsM ps) t k) ∧ (sumN n (mat (lowsM ps) t) ≤ ts.getD t 0 ∧ ts.getD t 0 ≤ sumN n (mat (highsM ps) t)) ∧ ∀ e, e < t → sumN n (fun k => max 0 (mat (lowsM ps) t k - mat (highsM ps) e k)) ≤ ts.getD t 0 - ts.getD e 0) := fun t h => by
    unfold okAt
    rw [Bool.and_eq_true, Bool.and_eq_true, Bool.and_eq_true, all_zw (Lw t h) (Hw t h), decide_eq_true_eq, decide_eq_true_eq, sum_sumN, sum_sumN, Lw t h, Hw t h, List.all_eq_true, and_assoc]
    have sq : ∀ e, e < t → sureM ((lowsM ps).getD t []) ((highsM ps).getD e []) = sumN n fun k => max 0 (mat (lowsM ps) t k - mat (highsM ps) e k) := fun e he => sure_sumN (Lw t h) (Hw e (by omega))
    constructor
    · rintro ⟨a, b, c⟩
      exact ⟨a, b, fun e he => by have := c e (List.mem_range.mpr he); rw [decide_eq_true_eq] at this; rw [← sq e he]; exact this⟩
    · rintro ⟨a, b, c⟩
      exact ⟨a, b, fun e he => by rw [List.mem_range] at he; rw [decide_eq_true_eq, sq e he]; exact c e he⟩
  constructor
  · intro h
    have h' := fun t (ht' : t < m) => (ok t ht').mp (h t (List.mem_range.mpr (by omega)))
    exact ⟨fun t k a b => (h' t a).1 k b, fun t a => (h' t a).2.1.1, fun t a => (h' t a).2.1.2, fun t e a b => (h' t a).2.2 e b⟩
  · intro C t h
    rw [List.mem_range] at h
    exact (ok t (by omega)).mpr ⟨fun k hk => C.lh t k (by omega) hk, ⟨C.low t (by omega), C.high t (by omega)⟩, fun e he => C.grow t e (by omega) he⟩
/-! ### histories -/
structure HistF (m n : Nat) (ts : List Int) (rs : List (List Rng)) (v : Nat → Nat → Int) : Prop where
  inr : ∀ t k, t < m → k < n → ∃ p : Int × Int, rAt rs t k = some p ∧ p.1 ≤ v t k ∧ v t k ≤ p.2
  sum : ∀ t, t < m → sumN n (v t) = ts.getD t 0
  up : ∀ t k, t + 1 < m → k < n → v t k ≤ v (t + 1) k
section
variable {m n : Nat} {ts : List Int} {rs : List (List Rng)} {v : Nat → Nat → Int}
theorem Shp.un (s : Shp m n rs) : (unRs rs).length = m ∧ ∀ r ∈ unRs rs, r.length = n := by
  unfold unRs
  refine ⟨by rw [List.length_map]; exact s.rows, fun r hr => ?_⟩
  obtain ⟨q, hq, e⟩ := List.mem_map.mp hr
  rw [← e, List.length_map]; exact s.wide q hq
theorem Shp.none_at (s : Shp m n rs) (h : hasNone rs = false) {t k : Nat} (ht : t < m) (hk : k < n) : ∃ p, rAt rs t k = some p := by
  cases e : rAt rs t k with
  | some p => exact ⟨p, rfl⟩
  | none =>
    have q := s.at ht hk
    rw [e] at q
    have : hasNone rs = true := List.any_eq_true.mpr ⟨_, (s.row ht).1, List.any_eq_true.mpr ⟨none, List.mem_of_getElem? q, rfl⟩⟩
    rw [h] at this
    cases this
theorem Shp.some_all (s : Shp m n rs) (h : ∀ t k, t < m → k < n → ∃ p, rAt rs t k = some p) : hasNone rs = false := by
  cases e : hasNone rs with
  | false => rfl
  | true =>
    obtain ⟨row, hr, hx⟩ := List.any_eq_true.mp e
    obtain ⟨x, hx, hn⟩ := List.any_eq_true.mp hx
    obtain ⟨t, ht, et⟩ := List.getElem_of_mem hr
    obtain ⟨k, hk, ek⟩ := List.getElem_of_mem hx
    have lr := s.rows
    have lw := s.wide row hr
    obtain ⟨p, hp⟩ := h t k (by omega) (by omega)
    have : rAt rs t k = x := by
      unfold rAt
      have e1 : rs.getD t [] = row := by rw [List.getD_eq_getElem?_getD, List.getElem?_eq_getElem ht]; exact et
      rw [e1, List.getD_eq_getElem?_getD, List.getElem?_eq_getElem hk, ek]
      rfl
    rw [hp] at this
    rw [← this] at hn
    cases hn
theorem Shp.mat1 (s : Shp m n rs) {t k : Nat} (ht : t < m) (hk : k < n) : mat ((unRs rs).map (·.map (·.1))) t k = (unR (rAt rs t k)).1 ∧ mat ((unRs rs).map (·.map (·.2))) t k = (unR (rAt rs t k)).2 := by
  have e0 : (unRs rs).getD t [] = (rs.getD t []).map unR := by
    unfold unRs
    rw [List.getD_eq_getElem?_getD, List.getElem?_map, (s.row ht).2.2]; rfl
  have lu := s.un
  have lk : k < ((unRs rs).getD t []).length := by rw [e0, List.length_map, (s.row ht).2.1]; exact hk
  have e1 : ((unRs rs).getD t []).getD k (0, 0) = unR (rAt rs t k) := by
    rw [e0, List.getD_eq_getElem?_getD, List.getElem?_map, s.at ht hk]; rfl
  rw [mat_map (d := (0, 0)) (by omega) lk, mat_map (d := (0, 0)) (by omega) lk, e1]
  exact ⟨rfl, rfl⟩
/-- fits says exactly whether there is a history -/
theorem fits_iff (s : Shp m n rs) (ht : ts.length = m) : fitsM ts rs = true ↔ ∃ v, HistF m n ts rs v := by
  obtain ⟨lu, wu⟩ := s.un
  unfold fitsM
  rw [Bool.and_eq_true, Bool.not_eq_true', fitsP_iff lu wu ht]
  have lo : ∀ {t k}, t < m → k < n → mat (lowsM (unRs rs)) t k = runG max (mat ((unRs rs).map (·.map (·.1)))) t k := fun a b => low_lt lu wu a b
  have hi : ∀ {t k}, t < m → k < n → mat (highsM (unRs rs)) t k = runG min (mat ((unRs rs).reverse.map (·.map (·.2)))) (m - 1 - t) k := fun a b => high_lt lu wu a b
  have lo1 : ∀ {a t k}, a ≤ t → t < m → k < n → (unR (rAt rs a k)).1 ≤ mat (lowsM (unRs rs)) t k := fun {a t k} h1 h2 h3 => by
    rw [lo h2 h3, ← (s.mat1 (show a < m by omega) h3).1]
    exact runG_max h1
  have hi1 : ∀ {a t k}, t ≤ a → a < m → k < n → mat (highsM (unRs rs)) t k ≤ (unR (rAt rs a k)).2 := fun {a t k} h1 h2 h3 => by
    rw [hi (by omega) h3, ← (s.mat1 h2 h3).2, ← mat_rev lu h2]
    exact runG_min (by omega)
  have lo2 : ∀ {t k x}, t < m → k < n → (∀ a, a ≤ t → (unR (rAt rs a k)).1 ≤ x) → mat (lowsM (unRs rs)) t k ≤ x := fun {t k x} h1 h2 h3 => by
    rw [lo h1 h2]
    exact runG_max_le fun a ha => by rw [(s.mat1 (show a < m by omega) h2).1]; exact h3 a ha
  have hi2 : ∀ {t k x}, t < m → k < n → (∀ a, t ≤ a → a < m → x ≤ (unR (rAt rs a k)).2) → x ≤ mat (highsM (unRs rs)) t k := fun {t k x} h1 h2 h3 => by
    rw [hi h1 h2]
    refine runG_min_le fun a ha => ?_
    have := mat_rev (k := k) lu (t := m - 1 - a) (by omega)
    rw [show m - 1 - (m - 1 - a) = a by omega] at this
    rw [this, (s.mat1 (show m - 1 - a < m by omega) h2).2]
    exact h3 _ (by omega) (by omega)
  constructor
  · rintro ⟨hn, C⟩
    have ML : Mono m n (mat (lowsM (unRs rs))) := ⟨fun t u k h1 h2 h3 => lo2 (by omega) h3 fun a ha => lo1 (by omega) h2 h3⟩
    have MH : Mono m n (mat (highsM (unRs rs))) := ⟨fun t u k h1 h2 h3 => hi2 h2 h3 fun a h4 h5 => hi1 (by omega) h5 h3⟩
    obtain ⟨v, V⟩ := C.vts ML MH
    refine ⟨v, fun t k h1 h2 => ?_, V.sum, V.up⟩
    obtain ⟨p, hp⟩ := s.none_at hn h1 h2
    have a := lo1 (Nat.le_refl t) h1 h2
    have b := hi1 (Nat.le_refl t) h1 h2
    have c := V.lo t k h1 h2
    have d := V.hi t k h1 h2
    rw [hp] at a b
    have a' : p.1 ≤ _ := a
    have b' : _ ≤ p.2 := b
    exact ⟨p, hp, by omega, by omega⟩
  · rintro ⟨v, V⟩
    refine ⟨s.some_all fun t k h1 h2 => let ⟨p, hp, _⟩ := V.inr t k h1 h2; ⟨p, hp⟩, ?_⟩
    have V0 : Vts m n (fun t => ts.getD t 0) (fun t k => (unR (rAt rs t k)).1) (fun t k => (unR (rAt rs t k)).2) v := by
      refine ⟨fun t k h1 h2 => ?_, fun t k h1 h2 => ?_, V.sum, V.up⟩
      · obtain ⟨p, hp, a, b⟩ := V.inr t k h1 h2
        rw [hp]; exact a
      · obtain ⟨p, hp, a, b⟩ := V.inr t k h1 h2
        rw [hp]; exact b
    have V1 : Vts m n (fun t => ts.getD t 0) (mat (lowsM (unRs rs))) (mat (highsM (unRs rs))) v :=
      ⟨fun t k h1 h2 => lo2 h1 h2 fun a ha => Int.le_trans (V0.lo a k (by omega) h2) (V0.mono.up a t k ha h1 h2),
       fun t k h1 h2 => hi2 h1 h2 fun a h3 h4 => Int.le_trans (V0.mono.up t a k h3 h4 h2) (V0.hi a k h4 h2), V.sum, V.up⟩
    exact V1.cnd
/-- narrowing -/
theorem rAt_nar (s : Shp m n rs) {i k t l : Nat} {lo hi : Int} (h1 : i < m) (h2 : k < n) (h3 : t < m) (h4 : l < n) : rAt (narrowM rs i k lo hi) t l = if t = i ∧ l = k then narR (unR (rAt rs i k)) lo hi else rAt rs t l := by
  have lr := s.rows
  by_cases e : t = i
  · subst e
    have e1 : (narrowM rs t k lo hi).getD t [] = (rs.getD t []).set k (narR (unR (rAt rs t k)) lo hi) := by
      unfold narrowM
      rw [List.getD_eq_getElem?_getD, List.getElem?_set_self (by omega)]; rfl
    unfold rAt at e1 ⊢
    rw [e1]
    have lw := (s.row h1).2.1
    by_cases e2 : l = k
    · subst e2
      rw [if_pos ⟨rfl, rfl⟩, List.getD_eq_getElem?_getD, List.getElem?_set_self (by rw [lw]; exact h2)]; rfl
    · (rw [if_neg (fun z => e2 z.2), List.getD_eq_getElem?_getD, List.getElem?_set_ne (fun z => e2 z.symm)]; simp only [List.getD_eq_getElem?_getD])
  · have e1 : (narrowM rs i k lo hi).getD t [] = rs.getD t [] := by
      unfold narrowM
      rw [List.getD_eq_getElem?_getD, List.getElem?_set_ne (fun z => e z.symm), List.getD_eq_getElem?_getD]
    unfold rAt at e1 ⊢
    rw [e1, if_neg (fun z => e z.1)]
theorem hist_nar (s : Shp m n rs) {i k : Nat} {lo hi : Int} {p : Int × Int} (h1 : i < m) (h2 : k < n) (hp : rAt rs i k = some p) : HistF m n ts (narrowM rs i k lo hi) v ↔ HistF m n ts rs v ∧ lo ≤ v i k ∧ v i k ≤ hi := by
  have un : unR (rAt rs i k) = p := by rw [hp]; rfl
  constructor
  · intro V
    have key := V.inr i k h1 h2
    rw [rAt_nar s h1 h2 h1 h2, if_pos ⟨rfl, rfl⟩, un] at key
    obtain ⟨q, hq, a, b⟩ := key
    unfold narR at hq
    split at hq
    · cases hq
      dsimp only at a b
      refine ⟨⟨fun t l h3 h4 => ?_, V.sum, V.up⟩, by omega, by omega⟩
      by_cases c : t = i ∧ l = k
      · obtain ⟨rfl, rfl⟩ := c
        exact ⟨p, hp, by omega, by omega⟩
      · have := V.inr t l h3 h4
        rw [rAt_nar s h1 h2 h3 h4, if_neg c] at this
        exact this
    · cases hq
  · rintro ⟨V, a, b⟩
    refine ⟨fun t l h3 h4 => ?_, V.sum, V.up⟩
    rw [rAt_nar s h1 h2 h3 h4]
    by_cases c : t = i ∧ l = k
    · obtain ⟨rfl, rfl⟩ := c
      obtain ⟨q, hq, a1, b1⟩ := V.inr t l h1 h2
      rw [hp] at hq
      cases hq
      rw [if_pos ⟨rfl, rfl⟩, un]
      unfold narR
      rw [if_pos (by omega)]
      exact ⟨_, rfl, by dsimp only; omega, by dsimp only; omega⟩
    · rw [if_neg c]
      exact V.inr t l h3 h4
theorem fits_nar (s : Shp m n rs) (ht : ts.length = m) {i k : Nat} {lo hi : Int} {p : Int × Int} (h1 : i < m) (h2 : k < n) (hp : rAt rs i k = some p) : fitsM ts (narrowM rs i k lo hi) = true ↔ ∃ v, HistF m n ts rs v ∧ lo ≤ v i k ∧ v i k ≤ hi := by
  rw [fits_iff (s.nar h1) ht]
  constructor
  · rintro ⟨v, V⟩
    exact ⟨v, (hist_nar s h1 h2 hp).mp V⟩
  · rintro ⟨v, V⟩
    exact ⟨v, (hist_nar s h1 h2 hp).mpr V⟩
/-- the smallest votes in all histories -/
theorem small_spec (s : Shp m n rs) (ht : ts.length = m) {i k : Nat} {p : Int × Int} (h1 : i < m) (h2 : k < n) (hp : rAt rs i k = some p) (h0 : 0 ≤ p.1) (hf : fitsM ts rs = true) :
    (∃ v, HistF m n ts rs v ∧ v i k = smallM ts rs i k) ∧ ∀ v, HistF m n ts rs v → smallM ts rs i k ≤ v i k := by
  have un : unR (rAt rs i k) = p := by rw [hp]; rfl
  have bd : ∀ v, HistF m n ts rs v → p.1 ≤ v i k ∧ v i k ≤ p.2 := fun v V => by
    obtain ⟨q, hq, a, b⟩ := V.inr i k h1 h2
    rw [hp] at hq
    cases hq
    exact ⟨a, b⟩
  obtain ⟨v0, V0⟩ := (fits_iff s ht).mp hf
  have b0 := bd v0 V0
  have mono : ∀ a b, p.1 ≤ a → a ≤ b → b ≤ p.2 → fitsM ts (narrowM rs i k 0 a) = true → fitsM ts (narrowM rs i k 0 b) = true := fun a b _ hab _ h => by
    rw [fits_nar s ht h1 h2 hp] at h ⊢
    obtain ⟨v, V, x, y⟩ := h
    exact ⟨v, V, x, by omega⟩
  obtain ⟨c1, c2, c3, c4⟩ := lowest_spec (p := fun x => fitsM ts (narrowM rs i k 0 x)) (l := p.1) (h := p.2) mono (by omega) ((fits_nar s ht h1 h2 hp).mpr ⟨v0, V0, by omega, by omega⟩)
  have e : smallM ts rs i k = lowest (fun x => fitsM ts (narrowM rs i k 0 x)) p.1 p.2 := by unfold smallM; rw [un]
  rw [e]
  have least : ∀ v, HistF m n ts rs v → lowest (fun x => fitsM ts (narrowM rs i k 0 x)) p.1 p.2 ≤ v i k := fun v V => by
    have b := bd v V
    by_cases c : v i k < lowest (fun x => fitsM ts (narrowM rs i k 0 x)) p.1 p.2
    · have := c4 (v i k) b.1 c
      have t : fitsM ts (narrowM rs i k 0 (v i k)) = true := (fits_nar s ht h1 h2 hp).mpr ⟨v, V, by omega, Int.le_refl _⟩
      rw [t] at this
      cases this
    · omega
  obtain ⟨v, V, x, y⟩ := (fits_nar s ht h1 h2 hp).mp c3
  have := least v V
  exact ⟨⟨v, V, by omega⟩, least⟩
theorem runHigh2 {p : Int → Int → Bool} {P : Int → Prop} {L H : Int} (hp : ∀ a b, L ≤ a → a ≤ b → b ≤ H → (p a b = true ↔ ∃ x, a ≤ x ∧ x ≤ b ∧ P x)) : ∀ (j : Nat) (l h : Int), (h - l).toNat ≤ j → L ≤ l → l ≤ h → h ≤ H → (∃ x, l ≤ x ∧ x ≤ h ∧ P x) → (∀ x, h < x → x ≤ H → ¬ P x) →
    ∃ x, runW openB (bsHigh2 p) j (l, h) = (x, x) ∧ L ≤ x ∧ x ≤ H ∧ P x ∧ ∀ u, x < u → u ≤ H → ¬ P u
  | 0, l, h, hm, h1, h2, h3, ⟨x, x1, x2, x3⟩, h5 => by
    have : l = h := by omega
    subst this
    have : x = l := by omega
    subst this
    exact ⟨x, rfl, h1, h3, x3, h5⟩
  | j + 1, l, h, hm, h1, h2, h3, ⟨x, x1, x2, x3⟩, h5 => by
    unfold runW
    by_cases hc : l < h
    · have : openB (l, h) = true := decide_eq_true hc
      rw [if_pos this]
      have e := bsHigh2_ms (p := p) this
      unfold bsHigh2 at e ⊢
      dsimp only at e ⊢
      cases hq : p ((l + h + 1) / 2) h with
      | true =>
        rw [hq, if_pos rfl] at e
        exact runHigh2 hp j ((l + h + 1) / 2) h (by dsimp only at e; omega) (by omega) (by omega) h3 ((hp _ _ (by omega) (by omega) h3).mp hq) h5
      | false =>
        rw [hq, if_neg Bool.false_ne_true] at e
        have no : ∀ u, (l + h + 1) / 2 ≤ u → u ≤ h → ¬ P u := fun u g1 g2 g3 => by
          have := (hp _ _ (by omega) (by omega) h3).mpr ⟨u, g1, g2, g3⟩
          rw [hq] at this
          cases this
        have : x ≤ (l + h + 1) / 2 - 1 := by
          by_cases c : (l + h + 1) / 2 ≤ x
          · exact absurd x3 (no x c x2)
          · omega
        refine runHigh2 hp j l ((l + h + 1) / 2 - 1) (by dsimp only at e; omega) h1 (by omega) (by omega) ⟨x, x1, this, x3⟩ fun u g1 g2 => ?_
        by_cases c : u ≤ h
        · exact no u (by omega) c
        · exact h5 u (by omega) g2
    · have : openB (l, h) = false := decide_eq_false hc
      rw [if_neg (by rw [this]; exact Bool.false_ne_true)]
      have : l = h := by omega
      subst this
      have : x = l := by omega
      subst this
      exact ⟨x, rfl, h1, h3, x3, h5⟩
/-- the largest votes in all histories -/
theorem large_spec (s : Shp m n rs) (ht : ts.length = m) {i k : Nat} {p : Int × Int} (h1 : i < m) (h2 : k < n) (hp : rAt rs i k = some p) (hf : fitsM ts rs = true) :
    (∃ v, HistF m n ts rs v ∧ v i k = largeM ts rs i k) ∧ ∀ v, HistF m n ts rs v → v i k ≤ largeM ts rs i k := by
  have un : unR (rAt rs i k) = p := by rw [hp]; rfl
  have bd : ∀ v, HistF m n ts rs v → p.1 ≤ v i k ∧ v i k ≤ p.2 := fun v V => by
    obtain ⟨q, hq, a, b⟩ := V.inr i k h1 h2
    rw [hp] at hq
    cases hq
    exact ⟨a, b⟩
  obtain ⟨v0, V0⟩ := (fits_iff s ht).mp hf
  have b0 := bd v0 V0
  obtain ⟨x, e, c1, c2, c3, c4⟩ := runHigh2 (p := fun a b => fitsM ts (narrowM rs i k a b)) (P := fun x => ∃ v, HistF m n ts rs v ∧ v i k = x) (L := p.1) (H := p.2) (fun a b _ _ _ => by
    rw [fits_nar s ht h1 h2 hp]
    constructor
    · rintro ⟨v, V, y1, y2⟩
      exact ⟨v i k, y1, y2, v, V, rfl⟩
    · rintro ⟨y, y1, y2, v, V, rfl⟩
      exact ⟨v, V, y1, y2⟩) (p.2 - p.1).toNat p.1 p.2 (Nat.le_refl _) (Int.le_refl _) (by omega) (Int.le_refl _) ⟨v0 i k, b0.1, b0.2, v0, V0, rfl⟩ fun y g1 g2 => absurd g1 (by omega)
  have ex : largeM ts rs i k = x := by unfold largeM; rw [un, e]
  rw [ex]
  obtain ⟨v, V, ev⟩ := c3
  refine ⟨⟨v, V, ev⟩, fun u U => ?_⟩
  have b := bd u U
  by_cases c : x < u i k
  · exact absurd ⟨u, U, rfl⟩ (c4 (u i k) c b.2)
  · omega
end
end Pj

set_option Elab.async false
set_option linter.all false
set_option maxRecDepth 100000
/-! Pv: history_of and bounds_of. -/
namespace Pj
open PySem PySem.Spec PyProof.Rows L2
def NonNeg (m n : Nat) (rs : List (List Rng)) : Prop := ∀ t k p, t < m → k < n → rAt rs t k = some p → 0 ≤ p.1
/-- ranges in which there is a history -/
structure Can (m n : Nat) (ts : List Int) (rs : List (List Rng)) : Prop where
  siz : Siz m n
  shp : Shp m n rs
  len : ts.length = m
  neg : NonNeg m n rs
  fit : fitsM ts rs = true
def hStep (ts : List Int) (i : Nat) (st : List (List Rng) × List Int) (k : Nat) : List (List Rng) × List Int := (narrowM st.1 i k (smallM ts st.1 i k) (smallM ts st.1 i k), st.2 ++ [smallM ts st.1 i k])
def hRow (ts : List Int) (n : Nat) (st : List (List Rng) × List (List Int)) (i : Nat) : List (List Rng) × List (List Int) := (((List.range n).foldl (hStep ts i) (st.1, [])).1, st.2 ++ [((List.range n).foldl (hStep ts i) (st.1, [])).2])
def histM (ts : List Int) (n : Nat) (rs : List (List Rng)) : List (List Int) := ((List.range ts.length).foldl (hRow ts n) (rs, [])).2
section
variable {m n : Nat} {ts : List Int} {rs : List (List Rng)} {v : Nat → Nat → Int}
theorem Can.at (c : Can m n ts rs) {t k : Nat} (ht : t < m) (hk : k < n) : ∃ p, rAt rs t k = some p ∧ 0 ≤ p.1 := by
  obtain ⟨v, V⟩ := (fits_iff c.shp c.len).mp c.fit
  obtain ⟨p, hp, _⟩ := V.inr t k ht hk
  exact ⟨p, hp, c.neg t k p ht hk hp⟩
theorem Can.small (c : Can m n ts rs) {t k : Nat} (ht : t < m) (hk : k < n) : (∃ v, HistF m n ts rs v ∧ v t k = smallM ts rs t k) ∧ ∀ v, HistF m n ts rs v → smallM ts rs t k ≤ v t k := by
  obtain ⟨p, hp, h0⟩ := c.at ht hk
  exact small_spec c.shp c.len ht hk hp h0 c.fit
theorem Can.large (c : Can m n ts rs) {t k : Nat} (ht : t < m) (hk : k < n) : (∃ v, HistF m n ts rs v ∧ v t k = largeM ts rs t k) ∧ ∀ v, HistF m n ts rs v → v t k ≤ largeM ts rs t k := by
  obtain ⟨p, hp, h0⟩ := c.at ht hk
  exact large_spec c.shp c.len ht hk hp c.fit
theorem Can.nar (c : Can m n ts rs) {i k : Nat} (hi : i < m) (hk : k < n) {lo hi' : Int} (h : ∃ v, HistF m n ts rs v ∧ lo ≤ v i k ∧ v i k ≤ hi') : Can m n ts (narrowM rs i k lo hi') := by
  obtain ⟨p, hp, h0⟩ := c.at hi hk
  refine ⟨c.siz, c.shp.nar hi, c.len, fun t l q ht hl hq => ?_, (fits_nar c.shp c.len hi hk hp).mpr h⟩
  rw [rAt_nar c.shp hi hk ht hl] at hq
  split at hq
  · rw [hp] at hq
    unfold narR at hq
    split at hq
    · cases hq
      dsimp only
      have : (unR (some p)).1 = p.1 := rfl
      omega
    · cases hq
  · exact c.neg t l q ht hl hq
theorem Can.step (c : Can m n ts rs) {i k : Nat} (hi : i < m) (hk : k < n) : Can m n ts (narrowM rs i k (smallM ts rs i k) (smallM ts rs i k)) := by
  obtain ⟨⟨v, V, e⟩, _⟩ := c.small hi hk
  exact c.nar hi hk ⟨v, V, by omega, by omega⟩
/-- every history of narrower ranges is one of the wider -/
def Within (m n : Nat) (ts : List Int) (rs rs' : List (List Rng)) : Prop := ∀ v, HistF m n ts rs' v → HistF m n ts rs v
theorem hStep_ok {i : Nat} (hi : i < m) : ∀ (j : Nat) (st : List (List Rng) × List Int), Can m n ts st.1 → st.2.length = j → j ≤ n → (∀ v, HistF m n ts st.1 v → st.2 = (List.range j).map (v i)) →
    ∀ d, j + d = n → Can m n ts ((List.range' j d).foldl (hStep ts i) st).1 ∧ Within m n ts st.1 ((List.range' j d).foldl (hStep ts i) st).1 ∧ ((List.range' j d).foldl (hStep ts i) st).2.length = n ∧ ∀ v, HistF m n ts ((List.range' j d).foldl (hStep ts i) st).1 v → ((List.range' j d).foldl (hStep ts i) st).2 = (List.range n).map (v i) := by
  intro j st c l hj key d
  induction d generalizing j st with
  | zero =>
    intro e
    have e : j = n := by omega
    subst e
    exact ⟨c, fun v V => V, l, key⟩
  | succ d ih =>
    intro e
    rw [List.range'_succ, List.foldl_cons]
    obtain ⟨p, hp, h0⟩ := c.at hi (show j < n by omega)
    have w : Within m n ts st.1 (hStep ts i st j).1 := fun v V => ((hist_nar c.shp hi (by omega) hp).mp V).1
    obtain ⟨a1, a2, a3, a4⟩ := ih (j + 1) (hStep ts i st j) (c.step hi (by omega)) (by show (st.2 ++ [_]).length = j + 1; rw [List.length_append, l]; rfl) (by omega) (fun v V => by
      have q := (hist_nar c.shp hi (by omega) hp).mp V
      show st.2 ++ [smallM ts st.1 i j] = _
      rw [List.range_succ, List.map_append, ← key v q.1, List.map_singleton]
      congr 2
      have := q.2
      omega) (by omega)
    exact ⟨a1, fun v V => w v (a2 v V), a3, a4⟩
theorem hRow_ok (st : List (List Rng) × List (List Int)) {i : Nat} (hi : i < m) (c : Can m n ts st.1) (l : st.2.length = i) (key : ∀ v, HistF m n ts st.1 v → st.2 = (List.range i).map fun t => (List.range n).map (v t)) :
    Can m n ts (hRow ts n st i).1 ∧ Within m n ts st.1 (hRow ts n st i).1 ∧ (hRow ts n st i).2.length = i + 1 ∧ ∀ v, HistF m n ts (hRow ts n st i).1 v → (hRow ts n st i).2 = (List.range (i + 1)).map fun t => (List.range n).map (v t) := by
  obtain ⟨a1, a2, a3, a4⟩ := hStep_ok hi 0 (st.1, []) c rfl (Nat.zero_le _) (fun v V => rfl) n (by omega)
  have er : List.range' 0 n = List.range n := List.range_eq_range'.symm
  rw [er] at a1 a2 a3 a4
  refine ⟨a1, a2, by show (st.2 ++ [_]).length = _; rw [List.length_append, l]; rfl, fun v V => ?_⟩
  show st.2 ++ [_] = _
  rw [List.range_succ, List.map_append, ← key v (a2 v V), List.map_singleton, a4 v V]
theorem Can.row {st : List (List Rng) × List (List Int)} {i : Nat} (c : Can m n ts st.1) (hi : i < m) : Can m n ts (hRow ts n st i).1 := by
  obtain ⟨a1, _⟩ := hStep_ok hi 0 (st.1, []) c rfl (Nat.zero_le _) (fun v V => rfl) n (by omega)
  have er : List.range' 0 n = List.range n := List.range_eq_range'.symm
  rw [er] at a1
  exact a1
theorem hist_all : ∀ (d j : Nat) (st : List (List Rng) × List (List Int)), j + d = m → Can m n ts st.1 → st.2.length = j → (∀ v, HistF m n ts st.1 v → st.2 = (List.range j).map fun t => (List.range n).map (v t)) →
    Within m n ts st.1 ((List.range' j d).foldl (hRow ts n) st).1 ∧ Can m n ts ((List.range' j d).foldl (hRow ts n) st).1 ∧ ∀ v, HistF m n ts ((List.range' j d).foldl (hRow ts n) st).1 v → ((List.range' j d).foldl (hRow ts n) st).2 = (List.range m).map fun t => (List.range n).map (v t)
  | 0, j, st, e, c, l, key => by
    have e : j = m := by omega
    subst e
    exact ⟨fun v V => V, c, key⟩
  | d + 1, j, st, e, c, l, key => by
    rw [List.range'_succ, List.foldl_cons]
    obtain ⟨a1, a2, a3, a4⟩ := hRow_ok st (show j < m by omega) c l key
    obtain ⟨b1, b2, b3⟩ := hist_all d (j + 1) (hRow ts n st j) (by omega) a1 a3 a4
    exact ⟨fun v V => a2 v (b1 v V), b2, b3⟩
/-- history_of returns a history -/
theorem histM_ok (c : Can m n ts rs) : ∃ v, HistF m n ts rs v ∧ histM ts n rs = (List.range m).map fun t => (List.range n).map (v t) := by
  obtain ⟨a1, a2, a3⟩ := hist_all m 0 (rs, []) (by omega) c rfl fun v V => rfl
  have er : List.range' 0 m = List.range m := List.range_eq_range'.symm
  rw [er] at a1 a2 a3
  obtain ⟨v, V⟩ := (fits_iff a2.shp a2.len).mp a2.fit
  refine ⟨v, a1 v V, ?_⟩
  unfold histM
  rw [c.len]
  exact a3 v V
end
def boundsM (ts : List Int) (m n : Nat) (rs : List (List Rng)) : List (List (Int × Int)) := (List.range m).map fun t => (List.range n).map fun k => (smallM ts rs t k, largeM ts rs t k)
def eBnds (b : List (List (Int × Int))) : PD := .list (b.map fun row => .list (row.map ePr))
def tots (ss : List Shot) : List Int := ss.map (·.1)
def M_history_of (ds : List PD) (o : PO) : Prop := ∃ (m n : Nat) (ts : List Int) (rs : List (List Rng)), Can m n ts rs ∧ ds = [eTots ts, eRngs rs] ∧ o = .ok (.va (.list ((histM ts n rs).map eInts)))
theorem m_history_of {m n : Nat} {ts : List Int} {rs : List (List Rng)} (c : Can m n ts rs) : M_history_of [eTots ts, eRngs rs] (.ok (.va (.list ((histM ts n rs).map eInts)))) := ⟨m, n, ts, rs, c, rfl, rfl⟩
section
variable {r : Ru} {n : Nat} {ss : List Shot}
theorem GoodS.siz (G : GoodS r n ss) : Siz ss.length n := ⟨G.cnt.1, by have := G.cnt.2; omega, by have := G.wide.1; omega, G.wide.2⟩
theorem GoodS.shp (G : GoodS r n ss) : Shp ss.length n (rngs r ss) := by
  unfold rngs
  refine ⟨by rw [List.length_map], fun row hr => ?_⟩
  obtain ⟨s, hs, e⟩ := List.mem_map.mp hr
  rw [← e, List.length_map]
  exact G.len s hs
theorem rAt_rngs {t k : Nat} {s : Shot} {x : Num} (h : ss[t]? = some s) (hk : s.2[k]? = some x) : rAt (rngs r ss) t k = ownR r s.1 x := by
  unfold rAt rngs
  rw [List.getD_eq_getElem?_getD, List.getD_eq_getElem?_getD, List.getElem?_map, h]
  show ((s.2.map (ownR r s.1))[k]?).getD none = _
  rw [List.getElem?_map, hk]
  rfl
theorem GoodS.nums (G : GoodS r n ss) {t k : Nat} (ht : t < ss.length) (hk : k < n) : ∃ s x, ss[t]? = some s ∧ s.2[k]? = some x ∧ (1 ≤ s.1 ∧ s.1 ≤ 1000000) ∧ GoodN r x ∧ s.1 = (tots ss).getD t 0 := by
  have hs : ss[t] ∈ ss := List.getElem_mem ht
  have l := G.len _ hs
  have hk' : k < ss[t].2.length := by omega
  refine ⟨ss[t], ss[t].2[k], List.getElem?_eq_getElem ht, List.getElem?_eq_getElem hk', G.tot _ hs, G.num _ hs _ (List.getElem_mem hk'), ?_⟩
  unfold tots
  rw [List.getD_eq_getElem?_getD, List.getElem?_map, List.getElem?_eq_getElem ht]
  rfl
theorem ownR_neg {t : Int} {x : Num} {p : Int × Int} (h : ownR r t x = some p) : 0 ≤ p.1 := by
  cases x with
  | none => cases h; exact Int.le_refl _
  | some i =>
    have h : rangeM r t i = some p := h
    unfold rangeM at h
    split at h
    · cases h
      show 0 ≤ lowM r t i
      unfold lowM
      omega
    · cases h
theorem GoodS.neg (G : GoodS r n ss) : NonNeg ss.length n (rngs r ss) := fun t k p ht hk hp => by
  obtain ⟨s, x, h1, h2, _⟩ := G.nums ht hk
  rw [rAt_rngs h1 h2] at hp
  exact ownR_neg hp
theorem GoodS.can (G : GoodS r n ss) (h : fitsM (tots ss) (rngs r ss) = true) : Can ss.length n (tots ss) (rngs r ss) := ⟨G.siz, G.shp, by unfold tots; rw [List.length_map], G.neg, h⟩
end
def histOf (r : Ru) (n : Nat) (ss : List Shot) : PD := if fitsM (tots ss) (rngs r ss) then .list ((histM (tots ss) n (rngs r ss)).map eInts) else .none
def bndsOf (r : Ru) (n : Nat) (ss : List Shot) : PD := if fitsM (tots ss) (rngs r ss) then eBnds (boundsM (tots ss) ss.length n (rngs r ss)) else .none
def M_history (ds : List PD) (o : PO) : Prop := ∃ d v, ds = [d, v] ∧ ((isRule d = false ∧ o = .ex "InvalidRule" none) ∨ (∃ r, Ru.ok r ∧ d = eRu r ∧ isShots r v = false ∧ o = .ex "InvalidShots" none) ∨
  ∃ r n ss, GoodS r n ss ∧ d = eRu r ∧ v = eShots ss ∧ o = .ok (.va (histOf r n ss)))
def M_bounds_of (ds : List PD) (o : PO) : Prop := ∃ r n ss, GoodS r n ss ∧ ds = [eRu r, eShots ss] ∧ o = .ok (.va (bndsOf r n ss))
def M_bounds (ds : List PD) (o : PO) : Prop := ∃ d v, ds = [d, v] ∧ ((isRule d = false ∧ o = .ex "InvalidRule" none) ∨ (∃ r, Ru.ok r ∧ d = eRu r ∧ isShots r v = false ∧ o = .ex "InvalidShots" none) ∨
  ∃ r n ss, GoodS r n ss ∧ d = eRu r ∧ v = eShots ss ∧ o = .ok (.va (bndsOf r n ss)))
section
variable {r : Ru} {n : Nat} {ss : List Shot}
theorem m_history (G : GoodS r n ss) : M_history [eRu r, eShots ss] (.ok (.va (histOf r n ss))) := ⟨_, _, rfl, .inr (.inr ⟨r, n, ss, G, rfl, rfl, rfl⟩)⟩
theorem m_bounds_of (G : GoodS r n ss) : M_bounds_of [eRu r, eShots ss] (.ok (.va (bndsOf r n ss))) := ⟨r, n, ss, G, rfl, rfl⟩
theorem m_bounds (G : GoodS r n ss) : M_bounds [eRu r, eShots ss] (.ok (.va (bndsOf r n ss))) := ⟨_, _, rfl, .inr (.inr ⟨r, n, ss, G, rfl, rfl, rfl⟩)⟩
end
end Pj

set_option Elab.async false
set_option linter.all false
set_option maxRecDepth 100000
set_option maxHeartbeats 1000000
/-! Pi10: zip of three lists or tuples. -/
namespace Pj
open PySem PySem.Spec PyProof.Rows L2
def Itz3 (b1 b2 b3 : Bool) (K : PySem.W.Frag) (a c d : Addr) : It :=
  ⟨fun i H => ∃ (xs ys zs : List V) (x y u : V), SqB b1 K H a xs ∧ SqB b2 K H c ys ∧ SqB b3 K H d zs ∧ xs[i]? = some x ∧ ys[i]? = some y ∧ zs[i]? = some u,
    fun i H v H' => ∃ T x y u, v = .ref T ∧ H T = none ∧ H' = upd H T (.tup [x, y, u]) ∧ (∀ xs, SqB b1 K H a xs → xs[i]? = some x) ∧ (∀ ys, SqB b2 K H c ys → ys[i]? = some y) ∧ ∀ zs, SqB b3 K H d zs → zs[i]? = some u,
    fun i H => ∃ xs ys zs : List V, SqB b1 K H a xs ∧ SqB b2 K H c ys ∧ SqB b3 K H d zs ∧ i = min (min xs.length ys.length) zs.length⟩
theorem turn_z3 {P : Program} {w : World} {K : PySem.W.Frag} {b1 b2 b3 : Bool} {elts : List Expr} {kk : Nat} {tpos : Pos} {a c d z TI TO i1 i2 i3 : Addr} (D : ZipSep3 z TI TO i1 i2 i3 [i1, a] [i2, c] [i3, d]) (n1 : a ≠ i1) (n2 : c ≠ i2) (n3 : d ≠ i3) :
    Turn P w K (.Tuple elts kk tpos) (Itz3 b1 b2 b3 K a c d) [z, TI, TO, i1, i2, i3] z (fun i h => IsZip h z TI TO .none ∧ IsTupOf3 h TI (.ref i1) (.ref i2) (.ref i3) ∧ (∃ x y u, IsTupOf3 h TO x y u) ∧ SqI b1 h i1 a i ∧ SqI b2 h i2 c i ∧ SqI b3 h i3 d i) where
  mem := by simp
  obj := fun i h st e he => by
    obtain ⟨hz, hTI, ⟨x, y, u, hTO⟩, h1, h2, h3⟩ := st
    have e' : e = z ∨ e = TI ∨ e = TO ∨ e = i1 ∨ e = i2 ∨ e = i3 := by simpa using he
    rcases e' with q | q | q | q | q | q
    · rw [q]; exact ⟨_, hz, fun v q => nomatch q⟩
    · rw [q]; exact ⟨_, hTI, fun v q => nomatch q⟩
    · rw [q]; exact ⟨_, hTO, fun v q => nomatch q⟩
    · rw [q]; exact h1.obj
    · rw [q]; exact h2.obj
    · rw [q]; exact h3.obj
  keep := fun i h h' st k => by
    obtain ⟨hz, hTI, ⟨x, y, u, hTO⟩, h1, h2, h3⟩ := st
    exact ⟨k z (by simp) _ hz, k TI (by simp) _ hTI, ⟨x, y, u, k TO (by simp) _ hTO⟩, h1.at fun o q => k i1 (by simp) o q, h2.at fun o q => k i2 (by simp) o q, h3.at fun o q => k i3 (by simp) o q⟩
  item := by
    intro X hP hw hK hc i pins s σ H E I hf st hg
    subst hP hw hK
    obtain ⟨hz, hTI, hTO, h1, h2, h3⟩ := st
    obtain ⟨xs, ys, zs, x, y, u, hqx, hqy, hqz, hx, hy, hu⟩ := hg
    obtain ⟨its, rv, p⟩ := sqB_get I hqx
    obtain ⟨its2, rv2, p2⟩ := sqB_get I hqy
    obtain ⟨its3, rv3, p3⟩ := sqB_get I hqz
    obtain ⟨v1, hv1, ru1⟩ := rv.get hx
    obtain ⟨v2, hv2, ru2⟩ := rv2.get hy
    obtain ⟨v3, hv3, ru3⟩ := rv3.get hu
    have hh : X.A.in1.handled = none := I.ok.hd hc
    have G := GoesN.zip3 (elts := elts) (x1 := kk) (pos := tpos) (A := X.A) D (draws_sq (prog := X.prog) (w := X.w) (b := b1) hh i1 a n1 its.toArray) (draws_sq (b := b2) hh i2 c n2 its2.toArray) (draws_sq (b := b3) hh i3 d n3 its3.toArray)
    have lt : ∀ {l : List Value} {v : Value}, l[i]? = some v → i < l.toArray.size := fun {l v} e => by
      have := (List.getElem?_eq_some_iff.mp e).1
      simpa using this
    have l1 := lt hv1
    have l2 := lt hv2
    have l3 := lt hv3
    refine thn (G.goes i s _ E (by omega) ⟨hz, hTI, hTO, ⟨h1, p⟩, ⟨h2, p2⟩, ⟨h3, p3⟩⟩ fun v h' tk hY st' hk htk => ?_) fun r s1 q => q
    obtain ⟨T, u1, u2, u3, rfl, hle, e1, e2, e3, hT⟩ := hY
    have q1 : u1 = v1 := by
      have : its.toArray[i]? = some v1 := by simpa using hv1
      rw [this] at e1; exact (Option.some.inj e1).symm
    have q2 : u2 = v2 := by
      have : its2.toArray[i]? = some v2 := by simpa using hv2
      rw [this] at e2; exact (Option.some.inj e2).symm
    have q3 : u3 = v3 := by
      have : its3.toArray[i]? = some v3 := by simpa using hv3
      rw [this] at e3; exact (Option.some.inj e3).symm
    subst q1 q2 q3
    have new : ObjOk X.prog X.w (upd H T (.tup [x, y, u])) h' T (.tup [x, y, u]) :=
      ⟨by show 3 ≤ sizeLine; decide, [u1, u2, u3], .cons ru1 (.cons ru2 (.cons ru3 .nil)), hT⟩
    have I1 : Inv X pins σ (upd H T (.tup [x, y, u])) { s with heap := h', toks := tk } :=
      I.turnedNew (ch := [z, TI, TO, i1, i2, i3]) (fun e o hb q => hk e o (fun hm => hb (by
        have : e = z ∨ e = TO ∨ e = i1 ∨ e = i2 ∨ e = i3 := by simpa using hm
        rcases this with r | r | r | r | r <;> simp [r])) q) hf hle new
    obtain ⟨z1, z2, z3, ⟨z4, _⟩, ⟨z5, _⟩, z6, _⟩ := st'
    refine ⟨.ref T, _, I1, rfl, ⟨T, x, y, u, rfl, I.hok.fresh hle, rfl, fun l hl => by rw [sqB_inj I hl hqx]; exact hx, fun l hl => by rw [sqB_inj I hl hqy]; exact hy, fun l hl => by rw [sqB_inj I hl hqz]; exact hu⟩, ⟨z1, z2, z3, z4, z5, z6⟩, fun e hcm => ?_⟩
    have hlt : e < s.heap.objs.size := by
      have e' : e = z ∨ e = TI ∨ e = TO ∨ e = i1 ∨ e = i2 ∨ e = i3 := by simpa using hcm
      obtain ⟨_, _, _, hTO'⟩ := hTO
      rcases e' with q | q | q | q | q | q
      · rw [q]; exact Heap.lt_size hz
      · rw [q]; exact Heap.lt_size hTI
      · rw [q]; exact Heap.lt_size hTO'
      · rw [q]; exact h1.lt
      · rw [q]; exact h2.lt
      · rw [q]; exact h3.lt
    rw [upd_ne (Nat.ne_of_lt (Nat.lt_of_lt_of_le hlt hle))]
    exact (hf e hcm).1
  done := by
    intro X hP hw hK hc i pins s σ H E I hf st hg
    subst hP hw hK
    obtain ⟨hz, hTI, hTO, h1, h2, h3⟩ := st
    obtain ⟨xs, ys, zs, hqx, hqy, hqz, hi⟩ := hg
    obtain ⟨its, rv, p⟩ := sqB_get I hqx
    obtain ⟨its2, rv2, p2⟩ := sqB_get I hqy
    obtain ⟨its3, rv3, p3⟩ := sqB_get I hqz
    have l1 := rv.length
    have l2 := rv2.length
    have l3 := rv3.length
    have hh : X.A.in1.handled = none := I.ok.hd hc
    have G := GoesN.zip3 (elts := elts) (x1 := kk) (pos := tpos) (A := X.A) D (draws_sq (prog := X.prog) (w := X.w) (b := b1) hh i1 a n1 its.toArray) (draws_sq (b := b2) hh i2 c n2 its2.toArray) (draws_sq (b := b3) hh i3 d n3 its3.toArray)
    have ei : i = min (min its.toArray.size its2.toArray.size) its3.toArray.size := by
      rw [List.size_toArray, List.size_toArray, List.size_toArray, ← l1, ← l2, ← l3]; exact hi
    refine G.stops s _ E (by rw [← ei]; exact ⟨hz, hTI, hTO, ⟨h1, p⟩, ⟨h2, p2⟩, ⟨h3, p3⟩⟩) fun h' tk hk htk => ?_
    exact I.turnedL (t' := tk) (ch := [z, TI, TO, i1, i2, i3]) (fun e o hb q => hk e o (fun hm => hb (by
        have : e = z ∨ e = TO ∨ e = i1 ∨ e = i2 ∨ e = i3 := by simpa using hm
        rcases this with r | r | r | r | r <;> simp [r])) q) hf
  self := fun A i s Q E st h => wpAny_pyIter_zip st.1 h
def iZ3 (K : PySem.W.Frag) (ta : TA) : TI := fun σ H R => ta σ H fun vs H1 => ∃ (b1 b2 b3 : Bool) (a c d : Addr) (xs ys zs : List V), vs = [.ref a, .ref c, .ref d] ∧ SqB b1 K H1 a xs ∧ SqB b2 K H1 c ys ∧ SqB b3 K H1 d zs ∧ R (Itz3 b1 b2 b3 K a c d) H1
theorem begins_sq (b : Bool) (l : Addr) (xs : Array Value) : Begins (.ref l) (itO b l) fun h => SqO b h l xs where
  iter := fun prog w A E s Q hl h => sq_iter hl h
  keeps := fun h h' x hk => ⟨fun q => (x.1 q).at fun o e => hk l o e, fun q => (x.2 q).at fun o e => hk l o e⟩
  free := rfl
theorem pi_z3 {X : Cx} {e e2 e3 : Expr} {ta : TA} {p pos tpos : Pos} {elts : List Expr} {kk : Nat} (hg : Gl X "zip") (hm : X.mg "zip" = none) (ha : PA X [e, e2, e3] ta)
    (hs : starEach [e, e2, e3] X.env = (false, eval e X.env) :: starEach [e2, e3] X.env := by rfl) (hpl : (backTo pos (starEach [e2, e3] X.env)).any (·.1) = false := by rfl) :
    PI X (.Tuple elts kk tpos) (.Call (.Name "zip" p) [e, e2, e3] [] pos) (iZ3 X.K ta) := by
  refine ⟨fun pins s σ H R I h => ?_⟩
  refine Call_ (ld_blt I hg hm PyProof.Rows.boot_zip (PyProof.Rows.callWith_type1 (thn (ha.run pos pins s σ H _ I h) fun us s1 ⟨vs, H1, I1, r1, q1⟩ => ?_) hs hpl))
  obtain ⟨b1, b2, b3, a, c, d, xs, ys, zs, ex, hqx, hqy, hqz, q⟩ := q1
  subst ex
  cases r1 with
  | cons r rr =>
    cases rr with
    | cons r' rr =>
      cases rr with
      | cons r'' rr =>
      cases rr
      cases r
      cases r'
      cases r''
      obtain ⟨its, rv, p1⟩ := sqB_get I1 hqx
      obtain ⟨its2, rv2, p2⟩ := sqB_get I1 hqy
      obtain ⟨its3, rv3, p3⟩ := sqB_get I1 hqz
      refine zip_begins3 (begins_sq b1 a its.toArray) (begins_sq b2 c its2.toArray) (begins_sq b3 d its3.toArray) p1 p2 p3 fun h' hz hTI hTO g1 g2 g3 _ hk => wpAny_pyIter_zip hz ?_
      have I2 : Inv X pins σ H1 { s1 with heap := h' } := I1.kept (t' := s1.toks) hk
      have la := p1.lt
      have lc := p2.lt
      have ld := p3.lt
      refine ⟨s1.heap.objs.size + 5, [s1.heap.objs.size + 5, s1.heap.objs.size + 3, s1.heap.objs.size + 4, s1.heap.objs.size, s1.heap.objs.size + 1, s1.heap.objs.size + 2], _, _, H1, rfl, I2, turn_z3 (zip_sep3 (fp1 := [a]) (fp2 := [c]) (fp3 := [d]) (fun b hb => by rw [List.mem_singleton.mp hb]; exact la) (fun b hb => by rw [List.mem_singleton.mp hb]; exact lc) (fun b hb => by rw [List.mem_singleton.mp hb]; exact ld)) (Nat.ne_of_lt la) (Nat.ne_of_lt (Nat.lt_succ_of_lt lc)) (Nat.ne_of_lt (Nat.lt_succ_of_lt (Nat.lt_succ_of_lt ld))),
        ⟨hz, hTI, ⟨_, _, _, hTO⟩, sqI_new g1 rfl rfl, sqI_new g2 rfl rfl, sqI_new g3 rfl rfl⟩, fun x hx => ?_, q⟩
      have hle : s1.heap.objs.size ≤ x := by
        have e' : x = s1.heap.objs.size + 5 ∨ x = s1.heap.objs.size + 3 ∨ x = s1.heap.objs.size + 4 ∨ x = s1.heap.objs.size ∨ x = s1.heap.objs.size + 1 ∨ x = s1.heap.objs.size + 2 := by simpa using hx
        rcases e' with z | z | z | z | z | z <;> (rw [z]; first | exact Nat.le_refl _ | exact Nat.le_add_right _ _)
      exact I1.fpOk hle (I1.hok.fresh hle)
def zip3D : List PD → List PD → List PD → List PD
  | a :: as, b :: bs, c :: cs => .tuple [a, b, c] :: zip3D as bs cs
  | _, _, _ => []
theorem zip3D_get : ∀ (as bs cs : List PD) (i : Nat) (a b c : PD), as[i]? = some a → bs[i]? = some b → cs[i]? = some c → (zip3D as bs cs)[i]? = some (.tuple [a, b, c])
  | x :: as, y :: bs, z :: cs, 0, a, b, c, h1, h2, h3 => by cases h1; cases h2; cases h3; rfl
  | x :: as, y :: bs, z :: cs, i + 1, a, b, c, h1, h2, h3 => zip3D_get as bs cs i a b c h1 h2 h3
  | [], _, _, i, a, b, c, h1, _, _ => by simp at h1
  | _ :: _, [], _, i, a, b, c, _, h2, _ => by simp at h2
  | _ :: _, _ :: _, [], i, a, b, c, _, _, h3 => by simp at h3
theorem zip3D_len : ∀ (as bs cs : List PD), (zip3D as bs cs).length = min (min as.length bs.length) cs.length
  | x :: as, y :: bs, z :: cs => by
    show (zip3D as bs cs).length + 1 = _
    rw [zip3D_len as bs cs]
    simp only [List.length_cons]
    omega
  | [], _, _ => by simp [zip3D]
  | _ :: _, [], _ => by simp [zip3D]
  | _ :: _, _ :: _, [] => by simp [zip3D]
section
variable {X : Cx} {W : WX} {ρ ρ1 ρ2 ρ3 : En} {e e2 e3 : Expr} {x y u : PD} {ds es gs : List PD} {p pos tpos : Pos} {elts : List Expr} {kk : Nat}
theorem it_zip3 (ha : EJ X W e ρ (.ok ρ1 (.va x))) (hb : EJ X W e2 ρ1 (.ok ρ2 (.va y))) (hc : EJ X W e3 ρ2 (.ok ρ3 (.va u))) (hm : X.mg "zip" = none) (hx : itemsOf x = some ds := by rfl) (hy : itemsOf y = some es := by rfl) (hu : itemsOf u = some gs := by rfl) (hg : Gl X "zip" := by rfl)
    (hs : starEach [e, e2, e3] X.env = (false, eval e X.env) :: starEach [e2, e3] X.env := by rfl) (hs2 : starEach [e2, e3] X.env = (false, eval e2 X.env) :: starEach [e3] X.env := by rfl) (hs3 : starEach [e3] X.env = (false, eval e3 X.env) :: starEach [] X.env := by rfl) (hpl : (backTo pos (starEach [e2, e3] X.env)).any (·.1) = false := by rfl) :
    ItJ X W (.Tuple elts kk tpos) (.Call (.Name "zip" p) [e, e2, e3] [] pos) ρ ρ3 (zip3D ds es gs) := by
  obtain ⟨t, h1, h2⟩ := aj_cons ha (aj_cons hb (aj_cons hc aj_nil hs3) hs2) hs
  refine ⟨_, pi_z3 hg hm h1 hs hpl, fun F H σ R RR q => h2 F H σ _ RR fun F1 H1 vs x1 R1 q1 => ?_⟩
  match vs, q1 with
  | [v1, v2, v3], .cons c1 (.cons c2 (.cons c3 .nil)) =>
    obtain ⟨b1, a, xs, rfl, s1, d1⟩ := dp_items c1 hx
    obtain ⟨b2, c, ys, rfl, s2, d2⟩ := dp_items c2 hy
    obtain ⟨b3, d, zs, rfl, s3, d3⟩ := dp_items c3 hu
    have l1 := DpAll.len d1
    have l2 := DpAll.len d2
    have l3 := DpAll.len d3
    refine ⟨b1, b2, b3, a, c, d, xs, ys, zs, rfl, s1.mono R1.fh, s2.mono R1.fh, s3.mono R1.fh, q F1 H1 _ x1 R1 ⟨⟨fun H => SqB b1 X.K H a xs ∧ SqB b2 X.K H c ys ∧ SqB b3 X.K H d zs, fun F H e1 e2 => ⟨s1.mono (e1.trans e2), s2.mono (e1.trans e2), s3.mono (e1.trans e2)⟩, fun i H hi g => ?_, fun H g => ?_, fun i dd F H x H' hd e1 e2 yl => ?_⟩⟩⟩
    · rw [zip3D_len] at hi
      exact ⟨xs, ys, zs, xs[i]'(by omega), ys[i]'(by omega), zs[i]'(by omega), g.1, g.2.1, g.2.2, List.getElem?_eq_getElem (by omega), List.getElem?_eq_getElem (by omega), List.getElem?_eq_getElem (by omega)⟩
    · rw [zip3D_len]
      exact ⟨xs, ys, zs, g.1, g.2.1, g.2.2, by omega⟩
    · obtain ⟨T, u1, u2, u3, rfl, hT, rfl, g1, g2, g3⟩ := yl
      obtain ⟨da, k1, k2⟩ := DpAll.at d1 (g1 xs (s1.mono (e1.trans e2)))
      obtain ⟨db, k3, k4⟩ := DpAll.at d2 (g2 ys (s2.mono (e1.trans e2)))
      obtain ⟨dc, k5, k6⟩ := DpAll.at d3 (g3 zs (s3.mono (e1.trans e2)))
      have ed := zip3D_get _ _ _ i _ _ _ k1 k3 k5
      rw [hd] at ed
      cases ed
      refine ⟨upd F T (.tup [u1, u2, u3]), Xt.frz e2 hT, ?_⟩
      have hF : F T = none := by
        cases hh : F T with
        | none => rfl
        | some o => have := e2 T o hh; rw [hT] at this; cases this
      have up : Same F (upd F T (.tup [u1, u2, u3])) := same_upd hF
      exact .tup (.inl (.inl (upd_same ..))) (.cons (Dp.mono k2 (e1.trans up)) (.cons (Dp.mono k4 (e1.trans up)) (.cons (Dp.mono k6 (e1.trans up)) .nil)))
end
end Pj

set_option Elab.async false
set_option linter.all false
set_option maxRecDepth 100000
/-! Pd: the laws' drawn rules, cropped and spoiled screenshots. -/
namespace Pj
open PySem PySem.Spec PyProof.Rows L2
def M_law_rule (c : Ct) (ds : List PD) (c' : Ct) (o : PO) : Prop := ∃ (b b1 b2 : Bg) (d1 d2 : PD), M_law_of (eBg b) [.list [.int 0, .int 0, .int 1, .int 2]] (eBg b1) (.ok (.va d1)) ∧ M_law_of (eBg b1) [.list [.str "up", .str "down"]] (eBg b2) (.ok (.va d2)) ∧ c = eBg b ∧ ds = [] ∧ c' = eBg b2 ∧ o = .ok (.va (.tuple [d1, d2]))
theorem rule_ex {b : Bg} (h : b.ok) : ∃ (r : Ru) (b' : Bg), r.ok ∧ b'.ok ∧ M_law_rule (eBg b) [] (eBg b') (.ok (.va (eRu r))) := by
  obtain ⟨i, d, b1, h1, h2, h3⟩ := of_ex (.list [.int 0, .int 0, .int 1, .int 2]) h
  obtain ⟨u, b2, g1, g2⟩ := half_ex h1
  have hd : ∃ k : Nat, k ≤ 2 ∧ d = .int k := by
    match i, h2 with
    | 0, h2 => cases h2; exact ⟨0, by decide, rfl⟩
    | 1, h2 => cases h2; exact ⟨0, by decide, rfl⟩
    | 2, h2 => cases h2; exact ⟨1, by decide, rfl⟩
    | 3, h2 => cases h2; exact ⟨2, by decide, rfl⟩
  obtain ⟨k, hk, rfl⟩ := hd
  exact ⟨⟨k, u⟩, b2, hk, g1, b, b1, b2, _, _, h3, g2, rfl, rfl, rfl, rfl⟩
/-! ### cropped -/
def cropN (w : Int) (b : Bg) (x : Num) : Num × Bg := (if (takeM b w).1 = 0 then none else x, (takeM b w).2)
def cropS (w : Int) (st : List Shot × Bg) (s : Shot) : List Shot × Bg := (st.1 ++ [(s.1, (mapS (cropN w) s.2 st.2).1)], (mapS (cropN w) s.2 st.2).2)
def cropM (w : Int) (b : Bg) (ss : List Shot) : List Shot × Bg := ss.foldl (cropS w) ([], b)
/-- some numbers made None -/
def CropOf (s s' : Shot) : Prop := s'.1 = s.1 ∧ s'.2.length = s.2.length ∧ ∀ i x y : Num, ∀ k : Nat, s.2[k]? = some x → s'.2[k]? = some y → y = none ∨ y = x
def M_law_cropped (c : Ct) (ds : List PD) (c' : Ct) (o : PO) : Prop := ∃ (b : Bg) (ss : List Shot) (w : Int), b.ok ∧ (0 < w ∧ w ≤ 1000) ∧ ss.length ≤ 100 ∧ (∀ s ∈ ss, s.2.length ≤ 100) ∧ c = eBg b ∧ ds = [eShots ss, .int w] ∧ c' = eBg (cropM w b ss).2 ∧ o = .ok (.va (eShots (cropM w b ss).1))
theorem cropN_inv {w : Int} (hw : 0 < w) (ns : List Num) {b : Bg} (hb : b.ok) : (mapS (cropN w) ns b).2.ok ∧ ∀ (i : Nat) x y, ns[i]? = some x → (mapS (cropN w) ns b).1[i]? = some y → (y = none ∨ y = x) :=
  mapS_inv (f := cropN w) Bg.ok (fun x y => y = none ∨ y = x) hb fun x b _ h => by
    refine ⟨?_, (takeM_ok h hw).1⟩
    unfold cropN
    dsimp only
    split
    · exact .inl rfl
    · exact .inr rfl
inductive Crops : List Shot → List Shot → Prop
  | nil : Crops [] []
  | cons {s s' : Shot} {ss ss' : List Shot} : CropOf s s' → Crops ss ss' → Crops (s :: ss) (s' :: ss')
theorem Crops.app {a b c d : List Shot} (h : Crops a b) (g : Crops c d) : Crops (a ++ c) (b ++ d) := by
  induction h with
  | nil => exact g
  | cons x _ ih => exact .cons x ih
theorem Crops.len {a b : List Shot} (h : Crops a b) : b.length = a.length := by
  induction h with
  | nil => rfl
  | cons _ _ ih => simp [ih]
theorem crop_fold {w : Int} (hw : 0 < w) : ∀ (ss : List Shot) (st : List Shot × Bg), st.2.ok → (ss.foldl (cropS w) st).2.ok ∧ ∃ ss', (ss.foldl (cropS w) st).1 = st.1 ++ ss' ∧ Crops ss ss'
  | [], st, h => ⟨h, [], by simp, .nil⟩
  | s :: ss, st, h => by
    rw [List.foldl_cons]
    obtain ⟨c1, c2⟩ := cropN_inv hw s.2 h
    obtain ⟨g1, ss', g2, g3⟩ := crop_fold hw ss (cropS w st s) c1
    refine ⟨g1, (s.1, (mapS (cropN w) s.2 st.2).1) :: ss', ?_, .cons ⟨rfl, mapS_length _ _ _, fun _ x y k h1 h2 => c2 k x y h1 h2⟩ g3⟩
    rw [g2]
    unfold cropS
    simp
theorem crop_ex {b : Bg} {ss : List Shot} (w : Int) (h : b.ok) (hl : ss.length ≤ 100) (hs : ∀ s ∈ ss, s.2.length ≤ 100) (hw : 0 < w ∧ w ≤ 1000 := by decide) : ∃ ss' b', b'.ok ∧ Crops ss ss' ∧ M_law_cropped (eBg b) [eShots ss, .int w] (eBg b') (.ok (.va (eShots ss'))) := by
  obtain ⟨c1, ss', c2, c3⟩ := crop_fold hw.1 ss ([], b) h
  refine ⟨ss', _, c1, c3, b, ss, w, h, hw, hl, hs, rfl, rfl, rfl, ?_⟩
  have e : (cropM w b ss).1 = ss' := by unfold cropM; rw [c2]; rfl
  rw [e]
theorem Crops.good {r : Ru} {n : Nat} {ss ss' : List Shot} (G : GoodS r n ss) (h : Crops ss ss') : GoodS r n ss' := by
  have key : ∀ s' ∈ ss', ∃ s ∈ ss, CropOf s s' := by
    clear G
    induction h with
    | nil => intro s' hs; cases hs
    | cons x _ ih =>
      intro s' hs
      rcases List.mem_cons.mp hs with e | e
      · subst e; exact ⟨_, List.mem_cons_self, x⟩
      · obtain ⟨s, a, b⟩ := ih s' e
        exact ⟨s, List.mem_cons_of_mem _ a, b⟩
  refine ⟨G.rule, G.wide, by rw [h.len]; exact G.cnt, fun s' hs => ?_, fun s' hs => ?_, fun s' hs x hx => ?_⟩
  · obtain ⟨s, a, c⟩ := key s' hs
    rw [c.1]; exact G.tot s a
  · obtain ⟨s, a, c⟩ := key s' hs
    rw [c.2.1]; exact G.len s a
  · obtain ⟨s, a, c⟩ := key s' hs
    obtain ⟨k, hk, e⟩ := List.getElem_of_mem hx
    have hk' : k < s.2.length := by rw [← c.2.1]; exact hk
    rcases c.2.2 none s.2[k] x k (List.getElem?_eq_getElem hk') (by rw [← e]; exact List.getElem?_eq_getElem hk) with z | z
    · subst z; intro i hi; cases hi
    · rw [z]; exact G.num s a _ (List.getElem_mem hk')
/-- the screenshots of a drawn history -/
def shotOf (p : Int × List Int) : Shot := (p.1, p.2.map some)
theorem eShI_eq (p : Int × List Int) : eShI p = eShot (shotOf p) := by
  unfold eShI eShot shotOf eInts eNums
  rw [List.map_map]
  rfl
theorem eShIs_eq (ps : List (Int × List Int)) : PyData.tuple (ps.map eShI) = eShots (ps.map shotOf) := by
  unfold eShots
  rw [List.map_map]
  congr 1
  exact List.map_congr_left fun p _ => eShI_eq p
theorem number_bounds {r : Ru} {v t : Int} (ht : 0 < t) (h0 : 0 ≤ v) (h1 : v ≤ t) : 0 ≤ numberM r v t ∧ numberM r v t ≤ scl r := by
  have hs := scl_pos r
  have e := Int.mul_ediv_add_emod (scl r * v) t
  have m1 := Int.emod_nonneg (scl r * v) (show t ≠ 0 by omega)
  have m2 := Int.emod_lt_of_pos (scl r * v) ht
  have l1 : 0 ≤ scl r * v := Int.mul_nonneg (by omega) h0
  have l2 : scl r * v ≤ scl r * t := Int.mul_le_mul_of_nonneg_left h1 (by omega)
  unfold numberM
  generalize scl r * v / t = q at *
  generalize scl r * v % t = s at *
  have q0 : 0 ≤ q := by
    by_cases c : 0 ≤ q
    · exact c
    · have := Int.mul_le_mul_of_nonneg_left (show q ≤ -1 by omega) (show 0 ≤ t by omega)
      omega
  have q1 : t * q + s ≤ t * scl r := by rw [Int.mul_comm t (scl r)]; omega
  have mono : ∀ a : Int, scl r + 1 ≤ a → t * scl r + t ≤ t * a := fun a h => by
    have := Int.mul_le_mul_of_nonneg_left h (show 0 ≤ t by omega)
    rw [Int.mul_add] at this
    omega
  have q2 : q ≤ scl r := by
    by_cases c : q ≤ scl r
    · exact c
    · have := mono q (by omega); omega
  split
  · rename_i hc
    refine ⟨by omega, ?_⟩
    by_cases c : q = scl r
    · subst c
      have : s = 0 := by omega
      omega
    · omega
  · exact ⟨q0, q2⟩
theorem PollRes.good {r : Ru} {n : Nat} {m w : Int} {rows : List (List Int)} {shots : List (Int × List Int)} (hr : r.ok) (hn : 2 ≤ n ∧ n ≤ 6) (hm : m ≤ 8) (R : PollRes r n m w rows shots) : GoodS r n (shots.map shotOf) := by
  have key : ∀ s ∈ shots.map shotOf, ∃ v ∈ rows, s = (v.sum, (numsM r v).map some) := fun s hs => by
    obtain ⟨p, hp, e⟩ := List.mem_map.mp hs
    rw [R.shots] at hp
    obtain ⟨v, hv, ep⟩ := List.mem_map.mp hp
    exact ⟨v, hv, by rw [← e, ← ep]; rfl⟩
  have ln : (shots.map shotOf).length = rows.length := by rw [List.length_map, R.shots, List.length_map]
  refine ⟨hr, hn, by rw [ln]; have := R.cnt; omega, fun s hs => ?_, fun s hs => ?_, fun s hs x hx => ?_⟩
  · obtain ⟨v, hv, rfl⟩ := key s hs
    exact (R.rows v hv).2.2.2.2
  · obtain ⟨v, hv, rfl⟩ := key s hs
    unfold numsM
    rw [List.length_map, List.length_map]
    exact (R.rows v hv).1
  · obtain ⟨v, hv, rfl⟩ := key s hs
    obtain ⟨y, hy, rfl⟩ := List.mem_map.mp hx
    unfold numsM at hy
    obtain ⟨a, ha, rfl⟩ := List.mem_map.mp hy
    have iv := (R.rows v hv).2
    intro i hi
    cases hi
    exact number_bounds (by have := iv.2.2.2.1; omega) (iv.2.2.1 a ha).1 (sum_ge_mem (fun v hv => (iv.2.2.1 v hv).1) ha)
end Pj

set_option Elab.async false
set_option linter.all false
set_option maxRecDepth 100000
/-! Pe: is_history. -/
namespace Pj
open PySem PySem.Spec PyProof.Rows L2
def shownOk (r : Ru) (t : Int) (p : Num × Int) : Bool := match p.1 with
  | none => true
  | some x => decide (shownM r p.2 t = x)
def rowOk (r : Ru) (p : Shot × List Int) : Bool := (decide ((p.2.length : Int) = p.1.2.length) && decide (p.2.sum = p.1.1)) && (p.1.2.zip p.2).all (shownOk r p.1.1)
def goodHist (r : Ru) (ss : List Shot) (vs : List (List Int)) : Bool := (ss.zip vs).all (rowOk r) && (vs.zip (vs.drop 1)).all fun p => allLe p.1 p.2
def toInts : PD → List Int
  | .tuple ds => ds.map toI
  | _ => []
def isHist (r : Ru) (ss : List Shot) : PD → Bool
  | .list ds => decide ((ds.length : Int) = ss.length) && ds.all isVotes && goodHist r ss (ds.map toInts)
  | _ => false
theorem votes_elim : ∀ {ds : List PD}, ds.all isVotes = true → ∃ vs : List (List Int), ds = vs.map eInts ∧ ∀ v ∈ vs, isVotesI v
  | [], _ => ⟨[], rfl, fun _ h => by cases h⟩
  | d :: ds, h => by
    rw [List.all_cons, Bool.and_eq_true] at h
    obtain ⟨vs, e, g⟩ := votes_elim h.2
    obtain ⟨v, iv, ev⟩ := isVotes_elim h.1
    refine ⟨v :: vs, by rw [e, ev]; rfl, fun y hy => ?_⟩
    rcases List.mem_cons.mp hy with e | hy
    · subst e; exact iv
    · exact g y hy
theorem toInts_e (v : List Int) : toInts (eInts v) = v := by
  show (v.map PyData.int).map toI = v
  rw [List.map_map]
  conv => rhs; rw [← List.map_id v]
  rfl
theorem toInts_map (vs : List (List Int)) : (vs.map eInts).map toInts = vs := by
  rw [List.map_map]
  conv => rhs; rw [← List.map_id vs]
  exact List.map_congr_left fun v _ => toInts_e v
def M_good_history (ds : List PD) (o : PO) : Prop := ∃ (r : Ru) (n : Nat) (ss : List Shot) (v : PD), GoodS r n ss ∧ ds = [eRu r, eShots ss, v] ∧ o = .ok (.va (.bool (isHist r ss v)))
theorem m_good_history {r : Ru} {n : Nat} {ss : List Shot} {v : PD} (G : GoodS r n ss) : M_good_history [eRu r, eShots ss, v] (.ok (.va (.bool (isHist r ss v)))) := ⟨r, n, ss, v, G, rfl, rfl⟩
def M_is_history (ds : List PD) (o : PO) : Prop := ∃ d s v, ds = [d, s, v] ∧ ((isRule d = false ∧ o = .ex "InvalidRule" none) ∨ (∃ r, Ru.ok r ∧ d = eRu r ∧ isShots r s = false ∧ o = .ex "InvalidShots" none) ∨
  ∃ r n ss, GoodS r n ss ∧ d = eRu r ∧ s = eShots ss ∧ o = .ok (.va (.bool (isHist r ss v))))
theorem m_is_history {r : Ru} {n : Nat} {ss : List Shot} {v : PD} (G : GoodS r n ss) : M_is_history [eRu r, eShots ss, v] (.ok (.va (.bool (isHist r ss v)))) := ⟨_, _, v, rfl, .inr (.inr ⟨r, n, ss, G, rfl, rfl, rfl⟩)⟩
theorem drop_map {α β : Type} (f : α → β) (l : List α) : (l.map f).drop 1 = (l.drop 1).map f := List.map_drop.symm
theorem zw_all (a b : List Int) : ((a.zip b).all fun p => decide (p.1 ≤ p.2)) = allLe a b := by
  unfold allLe
  rw [← zip_zw, List.all_map]
  rfl
theorem zip_mem {α β : Type} {as : List α} {bs : List β} {p : α × β} (h : p ∈ as.zip bs) : p.1 ∈ as ∧ p.2 ∈ bs := by
  obtain ⟨a, b⟩ := p
  exact ⟨(List.of_mem_zip h).1, (List.of_mem_zip h).2⟩
section
variable {X : Cx} {W : WX} {lv : Nat} {body ta tb rest : List Stmt} {st : Stmt} {ρ ρ1 ρ2 : En} {r r0 : Rs} {n : Str} {p : Option (Str × PD)} {o : SO} {po : PO} {k : Bool} {c e tg iter : Expr} {pos : Pos} {sh : TgS} {items items2 : List PD} {α S : Type}
/-- a for of checks, each of which may return r0 -/
theorem fj_checks (l : List α) (en : α → PD) (ok : α → Bool) (C : Ok X W lv) (hi : ItJ X W tg iter ρ ρ1 items) (he : items = l.map en) (hg : PG X tg (gOf X.K sh))
    (turn : ∀ a, a ∈ l → ∃ ρt, tgSet sh (en a) ρ1 = some ρt ∧ SrJ X W body ρt ρ1 (if ok a then none else some r0))
    (h1 : l.all ok = true → FJ X W rest ρ1 po) (h2 : l.all ok = false → po = .ok r0) (hs : ∀ x, foldedSetIterable iter X.env x = pure x := by intro _; rfl) : FJ X W (.For tg iter body [] pos :: rest) ρ po := by
  refine fj_search l en (fun a => if ok a then none else some r0) C hi he hg turn (fun h => ?_) (fun x h => ?_) hs
  · rw [findSome_all] at h
    refine h1 ?_
    cases e : l.all ok with
    | true => rfl
    | false => rw [e] at h; cases h
  · rw [findSome_all] at h
    cases e : l.all ok with
    | true => rw [e] at h; cases h
    | false => rw [e] at h; cases h; exact h2 e
/-- the same within a search -/
theorem sr_checks {tail : List Stmt} (l : List α) (en : α → PD) (ok : α → Bool) (C : Ok X W lv) (hi : ItJ X W tg iter ρ ρ1 items) (he : items = l.map en) (hg : PG X tg (gOf X.K sh))
    (turn : ∀ a, a ∈ l → ∃ ρt, tgSet sh (en a) ρ1 = some ρt ∧ SrJ X W body ρt ρ1 (if ok a then none else some r0)) (go : SrJ X W tail ρ1 ρ2 none := by exact bj_done) (hs : ∀ x, foldedSetIterable iter X.env x = pure x := by intro _; rfl) :
    SrJ X W (.For tg iter body [] pos :: tail) ρ ρ2 (if l.all ok then none else some r0) := by
  rw [← findSome_all]
  exact sr_for l en _ C hi he hg turn go hs
end
theorem ne_int (a b : Int) : (!PyData.eqv (.int a) (.int b)) = !decide (a = b) := by
  show (!(a == b)) = _
  by_cases h : a = b
  · subst h; simp
  · simp [h]
theorem ne_len {a b : Int} : (!PyData.eqv (.int a) (.int b)) = !decide (a = b) := ne_int a b
theorem kit_l {ds : List PD} : isLst (.list ds) = true := rfl
end Pj

set_option Elab.async false
set_option linter.all false
set_option maxRecDepth 100000
/-! Pf: loops that carry a state and may return at once. -/
namespace Pj
open PySem PySem.Spec PyProof.Rows L2
def runOk {S α : Type} (ok : S → α → Bool) (nxt : S → α → S) : S → List α → Bool
  | _, [] => true
  | s, a :: l => ok s a && runOk ok nxt (nxt s a) l
section
variable {X : Cx} {W : WX} {lv : Nat} {body ta tb rest : List Stmt} {st : Stmt} {ρ ρ1 ρ2 : En} {r r0 : Rs} {n : Str} {p : Option (Str × PD)} {o : SO} {po : PO} {k : Bool} {c e tg iter : Expr} {pos : Pos} {sh : TgS} {items items2 : List PD} {α S : Type}
theorem forJ_run (E : S → En) (ok : S → α → Bool) (nxt : S → α → S) (en : α → PD) (Inv : S → Prop) : ∀ (l : List α) (s0 : S), Inv s0 →
    (∀ a s, a ∈ l → Inv s → ∃ ρt, tgSet sh (en a) (E s) = some ρt ∧ SrJ X W body ρt (E (nxt s a)) (if ok s a then none else some r0) ∧ (ok s a = true → Inv (nxt s a))) →
    (runOk ok nxt s0 l = true → ∃ s', Inv s' ∧ ForJ X W sh body (l.map en) (E s0) (.nx (E s'))) ∧ (runOk ok nxt s0 l = false → ∃ ρ', ForJ X W sh body (l.map en) (E s0) (.rt ρ' r0))
  | [], s0, h0, _ => ⟨fun _ => ⟨s0, h0, .nil⟩, fun h => by cases h⟩
  | a :: l, s0, h0, turn => by
    obtain ⟨ρt, h1, h2, h3⟩ := turn a s0 List.mem_cons_self h0
    unfold runOk
    cases hk : ok s0 a with
    | true =>
      rw [hk] at h2
      obtain ⟨i1, i2⟩ := forJ_run E ok nxt en Inv l (nxt s0 a) (h3 hk) fun b s hb hs => turn b s (List.mem_cons_of_mem _ hb) hs
      rw [Bool.true_and]
      refine ⟨fun h => ?_, fun h => ?_⟩
      · obtain ⟨s', q1, q2⟩ := i1 h
        exact ⟨s', q1, .nx h1 h2 q2⟩
      · obtain ⟨ρ', q⟩ := i2 h
        exact ⟨ρ', .nx h1 h2 q⟩
    | false =>
      rw [hk] at h2
      rw [Bool.false_and]
      refine ⟨fun h => (by cases h), fun _ => ?_⟩
      obtain ⟨ρ', q⟩ := h2
      exact ⟨ρ', .rt h1 q⟩
theorem fj_run (E : S → En) (ok : S → α → Bool) (nxt : S → α → S) (l : List α) (en : α → PD) (Inv : S → Prop) (s0 : S) (C : Ok X W lv) (hi : ItJ X W tg iter ρ (E s0) items) (he : items = l.map en) (hg : PG X tg (gOf X.K sh)) (h0 : Inv s0)
    (turn : ∀ a s, a ∈ l → Inv s → ∃ ρt, tgSet sh (en a) (E s) = some ρt ∧ SrJ X W body ρt (E (nxt s a)) (if ok s a then none else some r0) ∧ (ok s a = true → Inv (nxt s a)))
    (h1 : runOk ok nxt s0 l = true → ∀ s', Inv s' → FJ X W rest (E s') po) (h2 : runOk ok nxt s0 l = false → po = .ok r0) (hs : ∀ x, foldedSetIterable iter X.env x = pure x := by intro _; rfl) : FJ X W (.For tg iter body [] pos :: rest) ρ po := by
  subst he
  obtain ⟨a, b⟩ := forJ_run (W := W) E ok nxt en Inv l s0 h0 turn
  cases e : runOk ok nxt s0 l with
  | true =>
    obtain ⟨s', q1, q2⟩ := a e
    exact fj_cons (sj_for C hi hg q2 hs) (h1 e s' q1)
  | false =>
    obtain ⟨ρ', q⟩ := b e
    exact fj_st (sj_for C hi hg q hs) (h2 e)
end
theorem zip3D_map {α β γ : Type} (f : α → PD) (g : β → PD) (h : γ → PD) : ∀ (as : List α) (bs : List β) (cs : List γ), zip3D (as.map f) (bs.map g) (cs.map h) = (as.zip (bs.zip cs)).map fun p => .tuple [f p.1, g p.2.1, h p.2.2]
  | [], _, _ => by simp [zip3D]
  | _ :: _, [], _ => by simp [zip3D]
  | _ :: _, _ :: _, [] => by simp [zip3D]
  | a :: as, b :: bs, c :: cs => by
    rw [List.map_cons, List.map_cons, List.map_cons, List.zip_cons_cons, List.zip_cons_cons, List.map_cons, ← zip3D_map f g h as bs cs]
    rfl
/-! ### the law's own check of a history -/
def lawIn (r : Ru) (t : Int) (p : Num × Int × Int) : Bool := decide (p.2.2 ≤ p.2.1) && (match p.1 with
  | none => true
  | some x => decide (numberM r p.2.1 t = x))
def allI (d : PD) : Bool := match d with
  | .tuple es => es.all fun x => isI x 0 1000000
  | _ => false
def lenT : PD → Int
  | .tuple es => es.length
  | _ => 0
def lawOk (r : Ru) (old : List Int) (p : Shot × PD) : Bool := (isTup p.2 && decide (lenT p.2 = p.1.2.length)) && ((allI p.2 && decide ((toInts p.2).sum = p.1.1)) && (p.1.2.zip ((toInts p.2).zip old)).all (lawIn r p.1.1))
def lawNxt (_ : List Int) (p : Shot × PD) : List Int := toInts p.2
def lawHist (r : Ru) (n : Nat) (ss : List Shot) : PD → Bool
  | .list ds => decide ((ds.length : Int) = ss.length) && runOk (lawOk r) lawNxt (List.replicate n 0) (ss.zip ds)
  | _ => false
def M_law_is_history (ds : List PD) (o : PO) : Prop := ∃ (r : Ru) (n : Nat) (ss : List Shot) (v : PD), GoodS r n ss ∧ ShD 60 v ∧ ds = [eRu r, eShots ss, v] ∧ o = .ok (.va (.bool (lawHist r n ss v)))
theorem m_law_is_history {r : Ru} {n : Nat} {ss : List Shot} {v : PD} (G : GoodS r n ss) (h : ShD 60 v) : M_law_is_history [eRu r, eShots ss, v] (.ok (.va (.bool (lawHist r n ss v)))) := ⟨r, n, ss, v, G, h, rfl, rfl⟩
theorem canAll_in : ∀ {ds : List PD} {d : PD}, PyData.canLayAll0 ds = true → d ∈ ds → d.canLay0 = true
  | x :: ds, d, h, hd => by
    unfold PyData.canLayAll0 at h
    rw [Bool.and_eq_true] at h
    rcases List.mem_cons.mp hd with e | e
    · subst e; exact h.1
    · exact canAll_in h.2 e
theorem depAll_in : ∀ {ds : List PD} {d : PD}, d ∈ ds → d.depth ≤ PyData.depthAll ds
  | x :: ds, d, hd => by
    unfold PyData.depthAll
    rcases List.mem_cons.mp hd with e | e
    · subst e; omega
    · have := depAll_in e; omega
theorem shL_in {k : Nat} {ds : List PD} {d : PD} (h : ShD k (.list ds)) (hd : d ∈ ds) : ShD k d := by
  refine ⟨canAll_in h.1 hd, ?_⟩
  have := h.2
  unfold PyData.depth at this
  have := depAll_in hd
  omega
theorem shT_in {k : Nat} {ds : List PD} {d : PD} (h : ShD k (.tuple ds)) (hd : d ∈ ds) : ShD k d := by
  refine ⟨canAll_in h.1 hd, ?_⟩
  have := h.2
  unfold PyData.depth at this
  have := depAll_in hd
  omega
theorem kit_t {ds : List PD} : isTup (.tuple ds) = true := rfl
end Pj

set_option Elab.async false
set_option linter.all false
set_option maxRecDepth 100000
namespace Pj
open PySem PySem.Spec PyProof.Rows L2
/-! ### the number shown, two ways -/
theorem numberM_iff {r : Ru} {v t n : Int} (ht : 0 < t) : numberM r v t = n ↔ (if r.up then (2 * n - 1) * t ≤ 2 * (scl r * v) ∧ 2 * (scl r * v) < (2 * n + 1) * t else (2 * n - 1) * t < 2 * (scl r * v) ∧ 2 * (scl r * v) ≤ (2 * n + 1) * t) := by
  have e := Int.mul_ediv_add_emod (scl r * v) t
  have m1 := Int.emod_nonneg (scl r * v) (show t ≠ 0 by omega)
  have m2 := Int.emod_lt_of_pos (scl r * v) ht
  unfold numberM
  generalize hq : scl r * v / t = q at *
  generalize hs : scl r * v % t = s at *
  generalize hw : scl r * v = w at *
  have E : w = t * q + s := by omega
  have key : ∀ (k : Int), (2 * k - 1) * t = 2 * (t * k) - t ∧ (2 * k + 1) * t = 2 * (t * k) + t := fun k => by
    constructor
    · rw [Int.sub_mul, Int.mul_assoc, Int.mul_comm k t]; omega
    · rw [Int.add_mul, Int.mul_assoc, Int.mul_comm k t]; omega
  obtain ⟨k1, k2⟩ := key n
  rw [k1, k2]
  -- t*n compared with t*q
  have mono : ∀ a b : Int, a < b → t * a + t ≤ t * b := fun a b h => by
    have := Int.mul_le_mul_of_nonneg_left (show a + 1 ≤ b by omega) (show 0 ≤ t by omega)
    rw [Int.mul_add] at this
    omega
  have cases3 : n < q ∨ n = q ∨ n = q + 1 ∨ q + 1 < n := by omega
  have e1 : t * (q + 1) = t * q + t := by rw [Int.mul_add]; omega
  cases hu : r.up with
  | true =>
    simp only [if_true, and_true]
    rcases cases3 with c | c | c | c
    · have := mono n q c
      constructor
      · intro h
        split at h <;> omega
      · intro h; omega
    · subst c
      constructor
      · intro h
        split at h
        · omega
        · omega
      · intro h
        rw [if_neg (by omega)]
    · subst c
      constructor
      · intro h
        split at h
        · omega
        · omega
      · intro h
        rw [if_pos (by omega)]
    · have := mono (q + 1) n c
      constructor
      · intro h
        split at h <;> omega
      · intro h; omega
  | false =>
    simp only [Bool.false_eq_true, if_false, and_false, or_false]
    rcases cases3 with c | c | c | c
    · have := mono n q c
      constructor
      · intro h
        split at h <;> omega
      · intro h; omega
    · subst c
      constructor
      · intro h
        split at h
        · omega
        · omega
      · intro h
        rw [if_neg (by omega)]
    · subst c
      constructor
      · intro h
        split at h
        · omega
        · omega
      · intro h
        rw [if_pos (by omega)]
    · have := mono (q + 1) n c
      constructor
      · intro h
        split at h <;> omega
      · intro h; omega
theorem div_le_iff {a b q : Int} (hb : 0 < b) : a / b ≤ q ↔ a < b * (q + 1) := by
  have e := Int.mul_ediv_add_emod a b
  have m1 := Int.emod_nonneg a (show b ≠ 0 by omega)
  have m2 := Int.emod_lt_of_pos a hb
  generalize a / b = d at *
  constructor
  · intro h
    have := Int.mul_le_mul_of_nonneg_left h (show 0 ≤ b by omega)
    rw [Int.mul_add]
    omega
  · intro h
    by_cases c : d ≤ q
    · exact c
    · have := Int.mul_le_mul_of_nonneg_left (show q + 1 ≤ d by omega) (show 0 ≤ b by omega)
      omega
theorem le_div_iff {a b q : Int} (hb : 0 < b) : q ≤ a / b ↔ b * q ≤ a := by
  have e := Int.mul_ediv_add_emod a b
  have m1 := Int.emod_nonneg a (show b ≠ 0 by omega)
  have m2 := Int.emod_lt_of_pos a hb
  generalize a / b = d at *
  constructor
  · intro h
    have := Int.mul_le_mul_of_nonneg_left h (show 0 ≤ b by omega)
    omega
  · intro h
    by_cases c : q ≤ d
    · exact c
    · have := Int.mul_le_mul_of_nonneg_left (show d + 1 ≤ q by omega) (show 0 ≤ b by omega)
      rw [Int.mul_add] at this
      omega
/-- the interval of votes holds exactly the votes that show the number -/
theorem range_iff {r : Ru} {v t n : Int} (ht : 0 < t) (h0 : 0 ≤ v) (h1 : v ≤ t) : (lowM r t n ≤ v ∧ v ≤ highM r t n) ↔ numberM r v t = n := by
  have hs := scl_pos r
  rw [numberM_iff ht]
  unfold lowM highM
  have b0 : 0 < 2 * scl r := by omega
  have k : 2 * (scl r * v) = 2 * scl r * v := by rw [Int.mul_assoc]
  have k1 : 2 * scl r * (v + 1) = 2 * scl r * v + 2 * scl r := by rw [Int.mul_add]; omega
  have k2 : 2 * scl r * -v = -(2 * scl r * v) := by rw [Int.mul_neg]
  rw [k]
  cases hu : r.up with
  | true =>
    simp only [if_true]
    have a := @le_div_iff (0 - (2 * n - 1) * t) (2 * scl r) (-v) b0
    have b := @le_div_iff ((2 * n + 1) * t - 1) (2 * scl r) v b0
    rw [k2] at a
    constructor
    · rintro ⟨x, y⟩
      have c1 := a.mp (by omega)
      have c2 := b.mp (by omega)
      omega
    · rintro ⟨x, y⟩
      have c1 := a.mpr (by omega)
      have c2 := b.mpr (by omega)
      omega
  | false =>
    simp only [Bool.false_eq_true, if_false]
    have a := @div_le_iff ((2 * n - 1) * t) (2 * scl r) (v - 1) b0
    have b := @le_div_iff ((2 * n + 1) * t) (2 * scl r) v b0
    rw [show v - 1 + 1 = v by omega] at a
    constructor
    · rintro ⟨x, y⟩
      have c1 := a.mp (by omega)
      have c2 := b.mp (by omega)
      omega
    · rintro ⟨x, y⟩
      have c1 := a.mpr (by omega)
      have c2 := b.mpr (by omega)
      omega
theorem rangeM_some {r : Ru} {t n : Int} {p : Int × Int} (h : rangeM r t n = some p) : p.1 = lowM r t n ∧ p.2 = highM r t n ∧ p.1 ≤ p.2 ∧ 0 ≤ p.1 ∧ p.2 ≤ t := by
  unfold rangeM at h
  split at h
  · cases h
    exact ⟨rfl, rfl, by assumption, by show 0 ≤ lowM r t n; unfold lowM; omega, by show highM r t n ≤ t; unfold highM; omega⟩
  · cases h
theorem rangeM_none {r : Ru} {t n : Int} (h : rangeM r t n = none) : ¬ lowM r t n ≤ highM r t n := by
  unfold rangeM at h
  split at h
  · cases h
  · assumption
/-- shown is the same number -/
theorem shown_eq {r : Ru} {v t : Int} (ht : 0 < t) : shownM r v t = numberM r v t := by
  symm
  rw [numberM_iff ht]
  unfold shownM
  have k : 2 * (scl r * v) = 2 * scl r * v := by rw [Int.mul_assoc]
  rw [k]
  generalize 2 * scl r * v = w
  cases hu : r.up with
  | true =>
    simp only [if_true]
    have e := Int.mul_ediv_add_emod (w + t) (2 * t)
    have m1 := Int.emod_nonneg (w + t) (show 2 * t ≠ 0 by omega)
    have m2 := Int.emod_lt_of_pos (w + t) (show 0 < 2 * t by omega)
    generalize (w + t) / (2 * t) = q at *
    have a : (2 * q - 1) * t = 2 * t * q - t := by rw [Int.sub_mul, Int.mul_right_comm]; omega
    have b : (2 * q + 1) * t = 2 * t * q + t := by rw [Int.add_mul, Int.mul_right_comm]; omega
    rw [a, b]
    omega
  | false =>
    simp only [Bool.false_eq_true, if_false]
    have e := Int.mul_ediv_add_emod (w + t - 1) (2 * t)
    have m1 := Int.emod_nonneg (w + t - 1) (show 2 * t ≠ 0 by omega)
    have m2 := Int.emod_lt_of_pos (w + t - 1) (show 0 < 2 * t by omega)
    generalize (w + t - 1) / (2 * t) = q at *
    have a : (2 * q - 1) * t = 2 * t * q - t := by rw [Int.sub_mul, Int.mul_right_comm]; omega
    have b : (2 * q + 1) * t = 2 * t * q + t := by rw [Int.add_mul, Int.mul_right_comm]; omega
    rw [a, b]
    omega
/-! ### fewest_more by trying all -/
def fewL1 (r : Ru) (own present n : Int) (j : Nat) : Option Int := (List.range (j + 1)).findSome? fun g => if numberM r (own + (g : Nat)) (present + j) = n then some (j : Int) else none
def fewL (r : Ru) (own present n : Int) (k : Nat) : Option Int := (List.range k).findSome? (fewL1 r own present n)
theorem findSome_range {k : Nat} {P : Nat → Prop} [DecidablePred P] {c : Int} : (List.range k).findSome? (fun g => if P g then some c else none) = if ∃ g, g < k ∧ P g then some c else none := by
  by_cases h : ∃ g, g < k ∧ P g
  · rw [if_pos h]
    obtain ⟨g, h1, h2⟩ := h
    cases e : (List.range k).findSome? (fun g => if P g then some c else none) with
    | none =>
      rw [List.findSome?_eq_none_iff] at e
      have := e g (List.mem_range.mpr h1)
      rw [if_pos h2] at this
      cases this
    | some x =>
      obtain ⟨a, ha, hx⟩ := List.exists_of_findSome?_eq_some e
      split at hx
      · exact hx.symm
      · cases hx
  · rw [if_neg h, List.findSome?_eq_none_iff]
    intro g hg
    rw [if_neg]
    intro hp
    exact h ⟨g, List.mem_range.mp hg, hp⟩
theorem fewAt_eq {r : Ru} {own present n : Int} {j : Nat} (hp : 0 < present) (h0 : 0 ≤ own) (h1 : own ≤ present) : fewAt r own present n j = fewL1 r own present n j := by
  unfold fewL1
  rw [findSome_range]
  unfold fewAt
  cases e : rangeM r (present + j) n with
  | none =>
    have no := rangeM_none e
    show none = _
    rw [if_neg]
    rintro ⟨g, hg, hn⟩
    have := (range_iff (r := r) (n := n) (t := present + j) (v := own + (g : Nat)) (by omega) (by omega) (by omega)).mpr hn
    omega
  | some p =>
    obtain ⟨p1, p2, p3, p4, p5⟩ := rangeM_some e
    show (if p.1 ≤ own + j ∧ own ≤ p.2 then some (j : Int) else none) = _
    by_cases c : p.1 ≤ own + j ∧ own ≤ p.2
    · rw [if_pos c, if_pos]
      refine ⟨(max p.1 own - own).toNat, by omega, ?_⟩
      refine (range_iff (by omega) (by omega) (by omega)).mp ?_
      rw [← p1, ← p2]
      omega
    · rw [if_neg c, if_neg]
      rintro ⟨g, hg, hn⟩
      have := (range_iff (r := r) (n := n) (t := present + j) (v := own + (g : Nat)) (by omega) (by omega) (by omega)).mpr hn
      rw [← p1, ← p2] at this
      omega
theorem few_eq {r : Ru} {own present n : Int} {k : Nat} (hp : 0 < present) (h0 : 0 ≤ own) (h1 : own ≤ present) : fewM r own present n k = fewL r own present n k := by
  unfold fewM fewL
  congr 1
  funext j
  exact fewAt_eq hp h0 h1
/-- the present number needs no more votes -/
theorem few_now {r : Ru} {own present : Int} {k : Nat} (hp : 0 < present) (h0 : 0 ≤ own) (h1 : own ≤ present) : fewM r own present (shownM r own present) k = if 0 < k then some 0 else none := by
  rw [few_eq hp h0 h1]
  unfold fewL
  cases k with
  | zero => rfl
  | succ k =>
    rw [List.range_succ_eq_map, List.findSome?_cons]
    have : fewL1 r own present (shownM r own present) 0 = some 0 := by
      unfold fewL1
      rw [findSome_range, if_pos]
      · rfl
      · refine ⟨0, by omega, ?_⟩
        rw [shown_eq hp]
        simp
    rw [this, if_pos (by omega)]
theorem shown_bounds {r : Ru} {v t : Int} (ht : 0 < t) (h0 : 0 ≤ v) (h1 : v ≤ t) : 0 ≤ shownM r v t ∧ shownM r v t ≤ scl r := by
  have hs := scl_pos r
  have e := (numberM_iff (r := r) (v := v) ht).mp (shown_eq (r := r) (v := v) ht).symm
  generalize shownM r v t = q at *
  have l1 : 0 ≤ scl r * v := Int.mul_nonneg (by omega) h0
  have l2 : scl r * v ≤ scl r * t := Int.mul_le_mul_of_nonneg_left h1 (by omega)
  have a : (2 * q - 1) * t = 2 * (q * t) - t := by rw [Int.sub_mul, Int.mul_assoc]; omega
  have b : (2 * q + 1) * t = 2 * (q * t) + t := by rw [Int.add_mul, Int.mul_assoc]; omega
  rw [a, b] at e
  have mono : ∀ a b : Int, a < b → a * t + t ≤ b * t := fun a b h => by
    have := Int.mul_le_mul_of_nonneg_right (show a + 1 ≤ b by omega) (show 0 ≤ t by omega)
    rw [Int.add_mul] at this
    omega
  constructor
  · by_cases c : 0 ≤ q
    · exact c
    · have := mono q 0 (by omega)
      rw [Int.zero_mul] at this
      split at e <;> omega
  · by_cases c : q ≤ scl r
    · exact c
    · have := mono (scl r) q (by omega)
      split at e <;> omega
def M_law_fewest (ds : List PD) (o : PO) : Prop := ∃ (r : Ru) (ns : List Int) (i : Nat) (n m own : Int), r.ok ∧ isVotesI ns ∧ ns[i]? = some own ∧ (0 ≤ m ∧ m ≤ 100000) ∧ ds = [eRu r, eInts ns, .int i, .int n, .int m] ∧ o = .ok (.va (eOI (fewL r own ns.sum n (m + 1 - ns.sum).toNat)))
theorem m_law_fewest {r : Ru} {ns : List Int} {i : Nat} {n m own : Int} (h : r.ok) (h1 : isVotesI ns) (h2 : ns[i]? = some own) (h3 : 0 ≤ m ∧ m ≤ 100000) : M_law_fewest [eRu r, eInts ns, .int i, .int n, .int m] (.ok (.va (eOI (fewL r own ns.sum n (m + 1 - ns.sum).toNat)))) := ⟨r, ns, i, n, m, own, h, h1, h2, h3, rfl, rfl⟩
end Pj

set_option Elab.async false
set_option linter.all false
set_option maxRecDepth 100000
/-! Pg: the law's check of a history is the program's. -/
namespace Pj
open PySem PySem.Spec PyProof.Rows L2
theorem zip3_all {r : Ru} {t : Int} (ht : 0 < t) : ∀ (ns : List Num) (w old : List Int), ns.length = w.length → old.length = w.length → (ns.zip (w.zip old)).all (lawIn r t) = ((ns.zip w).all (shownOk r t) && allLe old w)
  | [], [], [], _, _ => rfl
  | x :: ns, y :: w, z :: old, h1, h2 => by
    have ih := zip3_all (r := r) ht ns w old (by simpa using h1) (by simpa using h2)
    have e : allLe (z :: old) (y :: w) = (decide (z ≤ y) && allLe old w) := by unfold allLe; rfl
    have e2 : lawIn r t (x, y, z) = (decide (z ≤ y) && shownOk r t (x, y)) := by
      unfold lawIn shownOk
      cases x with
      | none => rfl
      | some x => dsimp only; rw [shown_eq ht]
    rw [List.zip_cons_cons, List.zip_cons_cons, List.zip_cons_cons, List.all_cons, List.all_cons, ih, e, e2]
    cases decide (z ≤ y) <;> cases shownOk r t (x, y) <;> cases (ns.zip w).all (shownOk r t) <;> rfl
  | [], _ :: _, _, h, _ => by cases h
  | _ :: _, [], _, h, _ => by cases h
  | [], [], _ :: _, _, h => by cases h
  | _ :: _, _ :: _, [], _, h => by cases h
theorem lawOk_eq {r : Ru} {n : Nat} {ss : List Shot} (G : GoodS r n ss) {s : Shot} (hs : s ∈ ss) {old : List Int} (lo : old.length = n) (d : PD) : lawOk r old (s, d) = (isVotes d && rowOk r (s, toInts d) && allLe old (toInts d)) := by
  have ts := G.tot s hs
  have ls := G.len s hs
  have wd := G.wide
  by_cases hv : ∃ w : List Int, d = eInts w
  · obtain ⟨w, rfl⟩ := hv
    have e1 : lawOk r old (s, eInts w) = ((true && decide (lenT (eInts w) = s.2.length)) && ((allI (eInts w) && decide (w.sum = s.1)) && (s.2.zip (w.zip old)).all (lawIn r s.1))) := by
      unfold lawOk
      dsimp only
      rw [toInts_e]
      rfl
    have e2 : rowOk r (s, toInts (eInts w)) = ((decide ((w.length : Int) = s.2.length) && decide (w.sum = s.1)) && (s.2.zip w).all (shownOk r s.1)) := by rw [toInts_e]; rfl
    have e3 : lenT (eInts w) = w.length := by show ((w.map PyData.int).length : Int) = _; rw [List.length_map]
    rw [e1, e2, e3, toInts_e, Bool.true_and]
    by_cases c1 : (w.length : Int) = s.2.length
    · rw [decide_eq_true c1, Bool.true_and, Bool.true_and]
      by_cases c2 : w.sum = s.1
      · rw [decide_eq_true c2, Bool.and_true, Bool.true_and, zip3_all (by omega) s.2 w old (by omega) (by omega)]
        have iv : allI (eInts w) = isVotes (eInts w) := by
          rw [Bool.eq_iff_iff]
          constructor
          · intro h
            exact isVotes_eInts ⟨by omega, by omega, isI_ints.mp h, by omega, by omega⟩
          · intro h
            obtain ⟨w', g, e⟩ := isVotes_elim h
            have ew : w = w' := by
              have := congrArg toInts e
              rwa [toInts_e, toInts_e] at this
            rw [ew]
            exact isI_ints.mpr g.2.2.1
        rw [iv]
        cases isVotes (eInts w) <;> cases (s.2.zip w).all (shownOk r s.1) <;> rfl
      · rw [decide_eq_false c2, Bool.and_false, Bool.false_and, Bool.false_and, Bool.and_false, Bool.false_and]
    · rw [decide_eq_false c1, Bool.false_and, Bool.false_and, Bool.false_and, Bool.and_false, Bool.false_and]
  · have e1 : isVotes d = false := by
      cases h : isVotes d with
      | false => rfl
      | true => obtain ⟨w, _, e⟩ := isVotes_elim h; exact absurd ⟨w, e⟩ hv
    have e2 : isTup d = false ∨ allI d = false := by
      by_cases ht : ∃ es, d = .tuple es
      · obtain ⟨es, rfl⟩ := ht
        refine .inr ?_
        cases h : allI (.tuple es) with
        | false => rfl
        | true => obtain ⟨w, e⟩ := allI_elim (show (es.all fun x => isI x 0 1000000) = true from h); exact absurd ⟨w, by rw [e]; rfl⟩ hv
      · exact .inl (by cases d <;> first | rfl | exact absurd ⟨_, rfl⟩ ht)
    rw [e1, Bool.false_and, Bool.false_and]
    unfold lawOk
    dsimp only
    rcases e2 with e2 | e2
    · rw [e2]; rfl
    · rw [e2, Bool.false_and, Bool.false_and, Bool.and_false]
def upFrom : List Int → List (List Int) → Bool
  | _, [] => true
  | old, v :: vs => allLe old v && upFrom v vs
theorem run_eq {r : Ru} {n : Nat} {ss0 : List Shot} (G : GoodS r n ss0) : ∀ (ss : List Shot) (ds : List PD) (old : List Int), (∀ s ∈ ss, s ∈ ss0) → ds.length = ss.length → old.length = n →
    runOk (lawOk r) lawNxt old (ss.zip ds) = (ds.all isVotes && (ss.zip (ds.map toInts)).all (rowOk r) && upFrom old (ds.map toInts))
  | [], [], _, _, _, _ => rfl
  | s :: ss, d :: ds, old, hs, hl, lo => by
    have h := lawOk_eq G (hs s List.mem_cons_self) lo d
    have e : runOk (lawOk r) lawNxt old ((s :: ss).zip (d :: ds)) = (lawOk r old (s, d) && runOk (lawOk r) lawNxt (toInts d) (ss.zip ds)) := rfl
    have e2 : upFrom old ((d :: ds).map toInts) = (allLe old (toInts d) && upFrom (toInts d) (ds.map toInts)) := rfl
    rw [e, h, e2, List.all_cons, List.map_cons, List.zip_cons_cons, List.all_cons]
    by_cases c : (isVotes d && rowOk r (s, toInts d)) = true
    · have ln : (toInts d).length = n := by
        rw [Bool.and_eq_true] at c
        have c2 := c.2
        unfold rowOk at c2
        rw [Bool.and_eq_true, Bool.and_eq_true, decide_eq_true_eq] at c2
        have := G.len s (hs s List.mem_cons_self)
        have := c2.1.1
        dsimp only at this
        omega
      rw [run_eq G ss ds (toInts d) (fun q hq => hs q (List.mem_cons_of_mem _ hq)) (by simpa using hl) ln]
      generalize isVotes d = a at *
      generalize rowOk r (s, toInts d) = b at *
      generalize allLe old (toInts d) = c' at *
      generalize ds.all isVotes = d' at *
      generalize (ss.zip (ds.map toInts)).all (rowOk r) = e' at *
      generalize upFrom (toInts d) (ds.map toInts) = f' at *
      cases a <;> cases b <;> cases c' <;> cases d' <;> cases e' <;> cases f' <;> rfl
    · have c : (isVotes d && rowOk r (s, toInts d)) = false := by simpa using c
      rw [c, Bool.false_and, Bool.false_and]
      generalize isVotes d = a at *
      generalize rowOk r (s, toInts d) = b at *
      generalize allLe old (toInts d) = c' at *
      generalize ds.all isVotes = d' at *
      generalize (ss.zip (ds.map toInts)).all (rowOk r) = e' at *
      generalize upFrom (toInts d) (ds.map toInts) = f' at *
      cases a <;> cases b <;> cases c' <;> cases d' <;> cases e' <;> cases f' <;> first | rfl | cases c
  | [], _ :: _, _, _, h, _ => by cases h
  | _ :: _, [], _, _, h, _ => by cases h
theorem upFrom_zip : ∀ (v : List Int) (vs : List (List Int)), upFrom v vs = ((v :: vs).zip vs).all fun p => allLe p.1 p.2
  | _, [] => rfl
  | v, w :: vs => by
    show (allLe v w && upFrom w vs) = _
    rw [upFrom_zip w vs]
    rfl
theorem law_hist {r : Ru} {n : Nat} {ss : List Shot} (G : GoodS r n ss) (v : PD) : lawHist r n ss v = isHist r ss v := by
  cases v with
  | list ds =>
    show (decide ((ds.length : Int) = ss.length) && runOk (lawOk r) lawNxt (List.replicate n 0) (ss.zip ds)) = (decide ((ds.length : Int) = ss.length) && ds.all isVotes && goodHist r ss (ds.map toInts))
    by_cases hl : (ds.length : Int) = ss.length
    · rw [decide_eq_true hl, Bool.true_and, Bool.true_and, run_eq G ss ds _ (fun s hs => hs) (by omega) (by simp)]
      unfold goodHist
      cases hv : ds.all isVotes with
      | false => rfl
      | true =>
        rw [Bool.true_and, Bool.true_and]
        cases hr : (ss.zip (ds.map toInts)).all (rowOk r) with
        | false => rfl
        | true =>
          rw [Bool.true_and, Bool.true_and]
          obtain ⟨vs, rfl, iv⟩ := votes_elim hv
          rw [toInts_map] at hr ⊢
          match vs, iv, hr with
          | [], _, _ => rfl
          | w :: vs, iv, hr =>
            have z : allLe (List.replicate n 0) w = true := by
              match ss, G, hl, hr with
              | s :: ss, G, _, hr =>
                have h0 : rowOk r (s, w) = true := List.all_eq_true.mp hr (s, w) (by simp)
                unfold rowOk at h0
                rw [Bool.and_eq_true, Bool.and_eq_true, decide_eq_true_eq] at h0
                have l1 := h0.1.1
                have l2 := G.len s List.mem_cons_self
                dsimp only at l1
                refine (all_zw (n := n) (by simp) (by omega)).mpr fun k hk => ?_
                have e : (List.replicate n (0 : Int)).getD k 0 = 0 := by rw [List.getD_eq_getElem?_getD, List.getElem?_replicate]; split <;> rfl
                rw [e]
                exact ((iv w List.mem_cons_self).2.2.1 _ (getD_mem (d := 0) (show k < w.length by omega)).1).1
            show (allLe _ w && upFrom w vs) = _
            rw [z, Bool.true_and, upFrom_zip]
            rfl
    · rw [decide_eq_false hl]; rfl
  | _ => rfl
end Pj

set_option Elab.async false
set_option linter.all false
set_option maxRecDepth 100000
/-! Pi11: list.pop(i), list.insert(i, x). -/
namespace Pj
open PySem PySem.Spec PyProof.Rows L2
theorem dp_two {K : PySem.W.Frag} {F : Hp} {xs : List V} {x y : PD} (h : DpAll K F xs [x, y]) : ∃ vx vy, xs = [vx, vy] ∧ Dp K F vx x ∧ Dp K F vy y := by
  cases h with
  | cons c1 r =>
    cases r with
    | cons c2 r =>
      cases r
      exact ⟨_, _, rfl, c1, c2⟩
section
variable {X : Cx} {W : WX} {lv : Nat} {a e : Expr} {ρ ρ1 ρ2 : En} {ds es : List PD} {d x y : PD} {j : Int} {pos p2 : Pos} {n : Str}
/-- name.pop(e) -/
theorem sj_popAt (m : Nat) {k : Nat} {pn pa : Pos} {s : Sl} (he : EJ X W e ρ (.ok ρ1 (.va (.int j)))) (hk : 0 ≤ j ∧ j < ds.length ∧ j < 2 ^ 62) (hd : ρ1[m]? = some s := by rfl) (hs : s.ct = some (.lst ds) := by rfl) (h0 : ∃ s0 c0, ρ[m]? = some s0 ∧ s0.ct = some (.lst c0) := by exact ⟨_, _, rfl, rfl⟩) (hN : X.N[m]? = some n := by rfl)
    (hv : Vis X.env.scope n := by first | exact Or.inl rfl | exact Or.inr (Or.inl rfl) | exact Or.inr (Or.inr rfl)) (hdb : (n == ("__debug__" : Str)) = false := by decide) (hcd : (n == ("__classdict__" : Str)) = false := by decide)
    (hst : starEach [e] X.env = (false, eval e X.env) :: starEach [] X.env := by rfl) (hpl : (backTo p2 (starEach [] X.env)).any (·.1) = false := by rfl)
    (hfew : ((backTo p2 (starEach [e] X.env)).all (fun x => !x.1) && (backToKw p2 (keywordEach [] X.env)).all (fun x => x.1.isSome)
      && decide (([e] : List Expr).length + ([] : List Keyword).length + (if ([] : List Keyword).isEmpty then 0 else 1) < 30)) = true := by rfl) (hline : (pa.endLine == p2.line) = true := by rfl)
    (hsw : swapsWith (.Call (.Attribute (.Name n pn) "pop" pa) [e] [] p2) none pos.line X.env = pure false := by rfl) : SJ X W (.Expr (.Call (.Attribute (.Name n pn) "pop" pa) [e] [] p2) pos) ρ (.nx (ρ1.set m (s.upd (.lst (ds.eraseIdx j.toNat))))) := by
  obtain ⟨t, h1, h2⟩ := he
  refine ⟨_, ps_expr (pe_bm PySem.F.plainAttrs_list PySem.F.slot_list_pop PySem.F.type_list_pop mt_popAt (pe_var hN hv hdb hcd) (pa_cons h1 pa_nil hst) rfl hfew hline hst hpl) hsw, fun F H σ D R q => ?_⟩
  obtain ⟨s0, c0, g1, g2⟩ := h0
  obtain ⟨a, u, e1, e2, e3, e4⟩ := own_at R g1 g2
  obtain ⟨vs0, rfl, _⟩ := ctOk_lst e4
  refine ⟨_, e1, .inl ⟨rfl, _, SqL.of e3⟩, h2 F H σ _ R fun F1 H1 v x1 R1 q1 => ?_⟩
  cases q1.1
  obtain ⟨a', u', f1, f2, f3, f4⟩ := own_at R1 hd hs
  rw [e1] at f1
  cases f1
  obtain ⟨vs, rfl, f5⟩ := ctOk_lst f4
  have l := DpAll.len f5
  obtain ⟨R2, x2⟩ := re_upd R1 hd hs e1 (u := .lst (vs.eraseIdx j.toNat)) (c' := .lst (ds.eraseIdx j.toNat)) (show DpAll X.K F1 (vs.eraseIdx j.toNat) (ds.eraseIdx j.toNat) from by
    rw [List.eraseIdx_eq_take_drop_succ, List.eraseIdx_eq_take_drop_succ]
    exact DpAll.append (DpAll.take f5 _) (DpAll.drop f5 _))
  have hjl : j.toNat < vs.length := by omega
  refine ⟨a, vs, j, j.toNat, vs[j.toNat], rfl, rfl, f3, by omega, by omega, ?_, List.getElem?_eq_getElem hjl, q F1 _ σ (x1.trans x2) R2⟩
  unfold seqIndex?
  have n0 : ¬ j < 0 := by omega
  rw [if_neg n0]
  exact if_pos (by rw [Bool.and_eq_true, decide_eq_true_eq, decide_eq_true_eq]; omega)
/-- name.insert(a, e) -/
theorem sj_insertAt (m : Nat) {pn pa : Pos} {s : Sl} (ha : EJ X W a ρ (.ok ρ1 (.va (.int j)))) (he : EJ X W e ρ1 (.ok ρ2 (.va d))) (hk : 0 ≤ j ∧ j < 2 ^ 62) (hz : ds.length < sizeLine) (hd : ρ2[m]? = some s := by rfl) (hs : s.ct = some (.lst ds) := by rfl) (h0 : ∃ s0 c0, ρ[m]? = some s0 ∧ s0.ct = some (.lst c0) := by exact ⟨_, _, rfl, rfl⟩) (hN : X.N[m]? = some n := by rfl)
    (hv : Vis X.env.scope n := by first | exact Or.inl rfl | exact Or.inr (Or.inl rfl) | exact Or.inr (Or.inr rfl)) (hdb : (n == ("__debug__" : Str)) = false := by decide) (hcd : (n == ("__classdict__" : Str)) = false := by decide)
    (hst0 : starEach [a, e] X.env = (false, eval a X.env) :: starEach [e] X.env := by rfl) (hst : starEach [e] X.env = (false, eval e X.env) :: starEach [] X.env := by rfl) (hpl : (backTo p2 (starEach [e] X.env)).any (·.1) = false := by rfl)
    (hfew : ((backTo p2 (starEach [a, e] X.env)).all (fun x => !x.1) && (backToKw p2 (keywordEach [] X.env)).all (fun x => x.1.isSome)
      && decide (([a, e] : List Expr).length + ([] : List Keyword).length + (if ([] : List Keyword).isEmpty then 0 else 1) < 30)) = true := by rfl) (hline : (pa.endLine == p2.line) = true := by rfl)
    (hsw : swapsWith (.Call (.Attribute (.Name n pn) "insert" pa) [a, e] [] p2) none pos.line X.env = pure false := by rfl) : SJ X W (.Expr (.Call (.Attribute (.Name n pn) "insert" pa) [a, e] [] p2) pos) ρ (.nx (ρ2.set m (s.upd (.lst (ds.take j.toNat ++ [d] ++ ds.drop j.toNat))))) := by
  obtain ⟨t1, a1, a2⟩ := ha
  obtain ⟨t, h1, h2⟩ := he
  refine ⟨_, ps_expr (pe_bm PySem.F.plainAttrs_list PySem.F.slot_list_insert PySem.F.type_list_insert mt_insert (pe_var hN hv hdb hcd) (pa_cons a1 (pa_cons h1 pa_nil hst) hst0) rfl hfew hline hst0 hpl) hsw, fun F H σ D R q => ?_⟩
  obtain ⟨s0, c0, g1, g2⟩ := h0
  obtain ⟨a, u, e1, e2, e3, e4⟩ := own_at R g1 g2
  obtain ⟨vs0, rfl, _⟩ := ctOk_lst e4
  refine ⟨_, e1, .inl ⟨rfl, _, SqL.of e3⟩, a2 F H σ _ R fun F0 H0 v0 x0 R0 q0 => h2 F0 H0 σ _ R0 fun F1 H1 v x1 R1 q1 => ?_⟩
  cases q0.1
  obtain ⟨a', u', f1, f2, f3, f4⟩ := own_at R1 hd hs
  rw [e1] at f1
  cases f1
  obtain ⟨vs, rfl, f5⟩ := ctOk_lst f4
  obtain ⟨R2, x2⟩ := re_upd R1 hd hs e1 (u := .lst (vs.take j.toNat ++ [v] ++ vs.drop j.toNat)) (c' := .lst (ds.take j.toNat ++ [d] ++ ds.drop j.toNat)) (show DpAll X.K F1 (vs.take j.toNat ++ [v] ++ vs.drop j.toNat) (ds.take j.toNat ++ [d] ++ ds.drop j.toNat) from DpAll.append (DpAll.append (DpAll.take f5 _) (.cons q1.1 .nil)) (DpAll.drop f5 _))
  exact ⟨a, vs, j, v, rfl, rfl, f3, by rw [DpAll.len f5]; exact hz, by omega, by omega, q F1 _ σ ((x0.trans x1).trans x2) R2⟩
/-- e[::-1], a list -/
theorem ej_revL {k : Nat} {q1 q2 q3 : Pos} (he : EJ X W e ρ (.ok ρ1 (.va (.list ds)))) : EJ X W (.Subscript e (.Slice none none (some (.UnaryOp .USub (.Constant (.int 1) k q1) q2)) q3) pos) ρ (.ok ρ1 (.ow (.lst ds.reverse))) := by
  obtain ⟨t, h1, h2⟩ := he
  refine ⟨_, L2.pe_revL h1, fun F H σ Q R q => h2 F H σ _ R fun F1 H1 v x1 R1 g => ?_⟩
  cases g.1 with
  | @lst a xs _ hs ha =>
    refine ⟨a, xs, rfl, Same.seq R1.fh hs, fun p np => ?_⟩
    have nf : F1 p = none := by
      cases hh : F1 p with
      | none => rfl
      | some o => have := R1.fh p o hh; rw [np] at this; cases this
    exact (q.pull x1).fin R1 (Xt.own R1.fh np) ⟨p, .lst xs.reverse, rfl, nf, upd_same, DpAll.reverse ha, np⟩
/-- name[a], name[b] = e, a tuple of two -/
theorem sj_setI2 (m : Nat) {pn ps pn2 ps2 pt : Pos} {kt : Nat} {b : Expr} {i : Int} {ki kj : Nat} {s : Sl} (C : Ok X W lv) (he : EJ X W e ρ (.ok ρ1 (.va (.tuple [x, y])))) (ha : EJ X W a ρ1 (.ok ρ1 (.va (.int i)))) (hb : EJ X W b (ρ1.set m (s.upd (.lst (ds.set ki x)))) (.ok (ρ1.set m (s.upd (.lst (ds.set ki x)))) (.va (.int j))))
    (hki : ixN ds.length i = some ki) (hkj : ixN ds.length j = some kj) (hd : ρ1[m]? = some s := by rfl) (hs : s.ct = some (.lst ds) := by rfl) (hd2 : (ρ1.set m (s.upd (.lst (ds.set ki x))))[m]? = some (s.upd (.lst (ds.set ki x))) := by rfl) (hs2 : (s.upd (.lst (ds.set ki x))).ct = some (.lst (ds.set ki x)) := by rfl) (hN : X.N[m]? = some n := by rfl)
    (hv : Vis X.env.scope n := by first | exact Or.inl rfl | exact Or.inr (Or.inl rfl) | exact Or.inr (Or.inr rfl)) (hdb : (n == ("__debug__" : Str)) = false := by decide) (hcd : (n == ("__classdict__" : Str)) = false := by decide)
    (q1 : ∀ v, assign (.Subscript (.Name n pn) a ps) X.env v = (do
      let ov ← holding [v] (eval (.Name n pn) X.env)
      let iv ← holding [v, ov] (eval a X.env)
      standAt ps
      holding [v, ov, iv] (setItem ov iv v)
      release [v, ov, iv] []) := by intro _; rfl) (q2 : ∀ v, assign (.Subscript (.Name n pn2) b ps2) X.env v = (do
      let ov ← holding [v] (eval (.Name n pn2) X.env)
      let iv ← holding [v, ov] (eval b X.env)
      standAt ps2
      holding [v, ov, iv] (setItem ov iv v)
      release [v, ov, iv] []) := by intro _; rfl)
    (g1 : (assignEach [.Subscript (.Name n pn) a ps, .Subscript (.Name n pn2) b ps2] X.env).map (·.2) = assign (.Subscript (.Name n pn) a ps) X.env :: (assignEach [.Subscript (.Name n pn2) b ps2] X.env).map (·.2) := by rfl)
    (g2 : (assignEach [.Subscript (.Name n pn2) b ps2] X.env).map (·.2) = assign (.Subscript (.Name n pn2) b ps2) X.env :: (assignEach [] X.env).map (·.2) := by rfl)
    (hn2 : (assignEach [.Subscript (.Name n pn) a ps, .Subscript (.Name n pn2) b ps2] X.env).length = 2 := by rfl) (hst2 : (assignEach [.Subscript (.Name n pn) a ps, .Subscript (.Name n pn2) b ps2] X.env).findIdx? (·.1) = none := by rfl)
    (hsw : swapsWithSole [.Tuple [.Subscript (.Name n pn) a ps, .Subscript (.Name n pn2) b ps2] kt pt] e pos.line X.env = pure false := by rfl) (hw : swappedStores [.Tuple [.Subscript (.Name n pn) a ps, .Subscript (.Name n pn2) b ps2] kt pt] e X.env = pure none := by rfl)
    (h1 : (assignEach [.Tuple [.Subscript (.Name n pn) a ps, .Subscript (.Name n pn2) b ps2] kt pt] X.env).map (·.2) = [assign (.Tuple [.Subscript (.Name n pn) a ps, .Subscript (.Name n pn2) b ps2] kt pt) X.env] := by rfl) :
    SJ X W (.Assign [.Tuple [.Subscript (.Name n pn) a ps, .Subscript (.Name n pn2) b ps2] kt pt] e pos) ρ (.nx ((ρ1.set m (s.upd (.lst (ds.set ki x)))).set m ((s.upd (.lst (ds.set ki x))).upd (.lst ((ds.set ki x).set kj y))))) := by
  obtain ⟨t, t1, t2⟩ := he
  obtain ⟨u, u1, u2⟩ := ha
  obtain ⟨w, w1, w2⟩ := hb
  refine ⟨_, ps_asg t1 (pg_tup C.calm (pgs_cons (pg_sub (pe_var hN hv hdb hcd) u1 set_list q1) (pgs_cons (pg_sub (pe_var hN hv hdb hcd) w1 set_list q2) pgs_nil g2) g1) hn2 hst2) hsw hw h1, fun F H σ D R q => t2 F H σ _ R fun F1 H1 v x1 R1 z1 => ?_⟩
  have z1 := z1.1
  cases z1 with
  | @tup at_ xs _ hq hall =>
    obtain ⟨vx, vy, rfl, c1, c2⟩ := dp_two hall
    · obtain ⟨a0, w0, e1, e2, e3, e4⟩ := own_at R1 hd hs
      refine ⟨at_, [vx, vy], rfl, Same.seqT R1.fh hq, rfl, vx, [vy], rfl, .ref a0, e1, u2 F1 H1 σ _ R1 fun F2 H2 v2 x2 R2 z2 => ?_⟩
      cases (show Dp X.K F2 v2 (.int i) from z2.1)
      obtain ⟨a', u', f1, f2, f3, f4⟩ := own_at R2 hd hs
      rw [e1] at f1
      cases f1
      obtain ⟨vs, rfl, f5⟩ := ctOk_lst f4
      obtain ⟨R3, x3⟩ := re_upd R2 hd hs e1 (u := .lst (vs.set ki vx)) (c' := .lst (ds.set ki x)) (show DpAll X.K F2 (vs.set ki vx) (ds.set ki x) from DpAll.set f5 (Dp.mono c1 x2.ff) ki)
      refine ⟨a0, vs, i, ki, rfl, rfl, f3, by rw [DpAll.len f5]; exact hki, vy, [], rfl, .ref a0, e1, w2 F2 _ σ _ R3 fun F4 H4 v4 x4 R4 z4 => ?_⟩
      cases (show Dp X.K F4 v4 (.int j) from z4.1)
      obtain ⟨a2, u2', k1, k2, k3, k4⟩ := own_at R4 hd2 hs2
      rw [e1] at k1
      cases k1
      obtain ⟨vs2, rfl, k5⟩ := ctOk_lst k4
      obtain ⟨R5, x5⟩ := re_upd R4 hd2 hs2 e1 (u := .lst (vs2.set kj vy)) (c' := .lst ((ds.set ki x).set kj y)) (show DpAll X.K F4 (vs2.set kj vy) ((ds.set ki x).set kj y) from DpAll.set k5 (Dp.mono c2 (x2.ff.trans x4.ff)) kj)
      exact ⟨a0, vs2, j, kj, rfl, rfl, k3, by rw [DpAll.len k5, List.length_set]; exact hkj, rfl, q F4 _ σ ((((x1.trans x2).trans x3).trans x4).trans x5) R5⟩
/-- len(name), the name of an own list, which stays own -/
theorem ej_lenO (m : Nat) {p pn : Pos} {s : Sl} (hm : X.mg "len" = none) (hd : ρ[m]? = some s) (hs : s.ct = some (.lst ds)) (hN : X.N[m]? = some n := by rfl)
    (hv : Vis X.env.scope n := by first | exact Or.inl rfl | exact Or.inr (Or.inl rfl) | exact Or.inr (Or.inr rfl)) (hdb : (n == ("__debug__" : Str)) = false := by decide) (hcd : (n == ("__classdict__" : Str)) = false := by decide)
    (hg : Gl X "len" := by rfl) (he : starEach [.Name n pn] X.env = (false, eval (.Name n pn) X.env) :: starEach [] X.env := by rfl) (hpl : (backTo pos (starEach [] X.env)).any (·.1) = false := by rfl) :
    EJ X W (.Call (.Name "len" p) [.Name n pn] [] pos) ρ (.ok ρ (.va (.int ds.length))) := by
  refine ⟨_, pe_callB call_len_seq hg hm boot_len (pa_cons (pe_var hN hv hdb hcd) pa_nil he) (by decide) (by decide) he hpl, fun F H σ Q R q => ?_⟩
  obtain ⟨a, u, e1, e2, e3, e4⟩ := own_at R hd hs
  obtain ⟨vs, rfl, f5⟩ := ctOk_lst e4
  refine ⟨.ref a, e1, a, vs, rfl, .inl (SqL.of e3), ?_⟩
  rw [DpAll.len f5]
  exact q.fin R (Xt.refl R.fh) (.int _)
end
end Pj

set_option Elab.async false
set_option linter.all false
set_option maxRecDepth 100000
/-! Ph: bent histories (k05). -/
namespace Pj
open PySem PySem.Spec PyProof.Rows L2
section
variable {X : Cx} {W : WX} {lv : Nat} {ρ ρ1 : En}
theorem fbj_cons {st : Stmt} {sts : List Stmt} {a : Addr} {c' : Ct} {o : PO} (h : SJ X W st ρ (.nx ρ1)) (g : FBJ X W sts ρ1 a c' o) : FBJ X W (st :: sts) ρ a c' o := by
  cases o with
  | ok r =>
    rcases g with ⟨ρ', e, g⟩ | ⟨e0, ρ', e, g⟩
    · exact .inl ⟨ρ', e, bj_cons h g⟩
    · exact .inr ⟨e0, ρ', e, bj_cons h g⟩
  | ex n p =>
    obtain ⟨ρ', e, g⟩ := g
    exact ⟨ρ', e, bj_cons h g⟩
end
theorem eqv_int (a b : Int) : PyData.eqv (.int a) (.int b) = decide (a = b) := by
  have := ne_int a b
  cases h : PyData.eqv (.int a) (.int b) <;> rw [h] at this <;> cases h2 : decide (a = b) <;> rw [h2] at this <;> first | rfl | cases this
def swapL (v : List Int) (i j : Nat) : List Int := (v.set i (v.getD j 0)).set j (v.getD i 0)
def moveL (v : List Int) (i j : Nat) : List Int := (v.set i (v.getD i 0 + 1)).set j ((v.set i (v.getD i 0 + 1)).getD j 0 - 1)
def oddOf (v : List Int) : List PD := [.none, .list (v.map .int), .tuple ((v.drop 1).map .int), .tuple (List.replicate v.length (.bool true))]
structure BentD where
  at_ : Nat
  way : Int
  one : Nat
  other : Nat
  bag : Bg
def bentD (b : Bg) (rows : List (List Int)) : BentD :=
  let a := takeM b rows.length
  let w := takeM a.2 8
  let n := (rows.getD a.1.toNat []).length
  let o := takeM w.2 n
  let p := takeM o.2 n
  ⟨a.1.toNat, w.1, o.1.toNat, p.1.toNat, p.2⟩
def bentM (b : Bg) (rows : List (List Int)) : List PD × Bg :=
  let d := bentD b rows
  let R := rows.map eInts
  let v := rows.getD d.at_ []
  if d.way = 0 then (R.eraseIdx d.at_, d.bag)
  else if d.way = 1 then (R.take d.at_ ++ [eInts v] ++ R.drop d.at_, d.bag)
  else if d.way = 2 then (R.reverse, d.bag)
  else if d.way = 3 then (R.set d.at_ (eInts (swapL v d.one d.other)), d.bag)
  else if d.way = 4 then (R.set d.at_ (pickM (oddOf v) (takeM d.bag 4).1), (takeM d.bag 4).2)
  else (R.set d.at_ (eInts (moveL v d.one d.other)), d.bag)
def M_law_bent (c : Ct) (ds : List PD) (c' : Ct) (o : PO) : Prop := ∃ (b : Bg) (n : Nat) (rows : List (List Int)), b.ok ∧ (2 ≤ n ∧ n ≤ 6) ∧ (1 ≤ rows.length ∧ rows.length ≤ 8) ∧ (∀ v ∈ rows, v.length = n) ∧ c = eBg b ∧ ds = [.list (rows.map eInts)] ∧ c' = eBg (bentM b rows).2 ∧ o = .ok (.va (.list (bentM b rows).1))
theorem shInts (v : List Int) : ShD 2 (eInts v) := shTm fun _ _ => shI
theorem bent_ex {b : Bg} {n : Nat} {rows : List (List Int)} (hb : b.ok) (hn : 2 ≤ n ∧ n ≤ 6) (hl : 1 ≤ rows.length ∧ rows.length ≤ 8) (hr : ∀ v ∈ rows, v.length = n) : ∃ (ds : List PD) (b' : Bg), b'.ok ∧ ShD 5 (.list ds) ∧ M_law_bent (eBg b) [.list (rows.map eInts)] (eBg b') (.ok (.va (.list ds))) := by
  obtain ⟨a1, a2, a3⟩ := takeM_ok hb (n := rows.length) (by omega)
  obtain ⟨w1, w2, w3⟩ := takeM_ok a1 (n := 8) (by decide)
  have hv := hr _ (getD_mem (l := rows) (d := []) (show (takeM b rows.length).1.toNat < rows.length by omega)).1
  obtain ⟨o1, o2, o3⟩ := takeM_ok w1 (n := ((rows.getD (takeM b rows.length).1.toNat []).length : Nat)) (by omega)
  obtain ⟨p1, p2, p3⟩ := takeM_ok o1 (n := ((rows.getD (takeM b rows.length).1.toNat []).length : Nat)) (by omega)
  have db : (bentD b rows).bag.ok := p1
  obtain ⟨q1, q2, q3⟩ := takeM_ok db (n := 4) (by decide)
  have R : ∀ d ∈ rows.map eInts, ShD 4 d := fun d hd => by
    obtain ⟨v, _, e⟩ := List.mem_map.mp hd
    exact e ▸ (shInts v).mono (by decide)
  refine ⟨_, _, ?_, ?_, b, n, rows, hb, hn, hl, hr, rfl, rfl, rfl, rfl⟩
  · unfold bentM
    dsimp only
    split
    · exact db
    · split
      · exact db
      · split
        · exact db
        · split
          · exact db
          · split
            · exact q1
            · exact db
  · unfold bentM
    dsimp only
    have st : ∀ (k : Nat) (x : PD), ShD 4 x → ShD 5 (.list ((rows.map eInts).set k x)) := fun k x hx => shL fun d hd => by
      rcases List.mem_or_eq_of_mem_set hd with h | h
      · exact R d h
      · exact h ▸ hx
    split
    · exact shL fun d hd => R d (List.mem_of_mem_eraseIdx hd)
    · split
      · refine shL fun d hd => ?_
        rcases List.mem_append.mp hd with h | h
        · rcases List.mem_append.mp h with h | h
          · exact R d (List.mem_of_mem_take h)
          · rw [List.mem_singleton.mp h]; exact (shInts _).mono (by decide)
        · exact R d (List.mem_of_mem_drop h)
      · split
        · exact shL fun d hd => R d (List.mem_reverse.mp hd)
        · split
          · exact st _ _ ((shInts _).mono (by decide))
          · split
            · refine st _ _ ?_
              generalize rows.getD (bentD b rows).at_ [] = v
              have : (takeM (bentD b rows).bag 4).1 = 0 ∨ (takeM (bentD b rows).bag 4).1 = 1 ∨ (takeM (bentD b rows).bag 4).1 = 2 ∨ (takeM (bentD b rows).bag 4).1 = 3 := by omega
              rcases this with e | e | e | e <;> rw [e]
              · exact shN.mono (by decide)
              · exact (shLm (k := 1) fun _ _ => shI).mono (by decide)
              · exact (shTm (k := 1) fun _ _ => shI).mono (by decide)
              · exact (shT (k := 1) fun d hd => by rw [List.eq_of_mem_replicate hd]; exact shB).mono (by decide)
            · exact st _ _ ((shInts _).mono (by decide))
end Pj

set_option Elab.async false
set_option linter.all false
set_option maxRecDepth 100000
/-! Qa: histories as lists of votes; the program's check, the plain law's histories. -/
namespace Pj
open PySem PySem.Spec PyProof.Rows L2
theorem zip_all_iff {α β : Type} {P : α × β → Bool} {as : List α} {bs : List β} : (as.zip bs).all P = true ↔ ∀ (t : Nat) a b, as[t]? = some a → bs[t]? = some b → P (a, b) = true := by
  rw [List.all_eq_true]
  constructor
  · intro h t a b h1 h2
    exact h _ (List.mem_of_getElem? (i := t) (List.getElem?_zip_eq_some.mpr ⟨h1, h2⟩))
  · intro h p hp
    obtain ⟨t, ht⟩ := List.mem_iff_getElem?.mp hp
    obtain ⟨h1, h2⟩ := List.getElem?_zip_eq_some.mp ht
    exact h t _ _ h1 h2
theorem allLe_iff {a b : List Int} : allLe a b = true ↔ leAll a b := by
  rw [← zw_all, zip_all_iff]
  constructor
  · intro h i x y h1 h2
    exact of_decide_eq_true (h i x y h1 h2)
  · intro h i x y h1 h2
    exact decide_eq_true (h i x y h1 h2)
/-- the votes of one screenshot -/
structure VtS (r : Ru) (s : Shot) (v : List Int) : Prop where
  len : v.length = s.2.length
  sum : v.sum = s.1
  pos : ∀ y ∈ v, 0 ≤ y
  num : ∀ (k : Nat) (i y : Int), s.2[k]? = some (some i) → v[k]? = some y → numberM r y s.1 = i
structure HsL (r : Ru) (ss : List Shot) (vs : List (List Int)) : Prop where
  len : vs.length = ss.length
  row : ∀ (t : Nat) s v, ss[t]? = some s → vs[t]? = some v → VtS r s v
  up : ∀ (t : Nat) v w, vs[t]? = some v → vs[t + 1]? = some w → leAll v w
theorem VtS.top {r : Ru} {s : Shot} {v : List Int} (h : VtS r s v) : ∀ y ∈ v, y ≤ s.1 := fun y hy => by
  have := sum_ge_mem h.pos hy
  rw [h.sum] at this
  exact this
theorem VtS.votes {r : Ru} {s : Shot} {v : List Int} (h : VtS r s v) (g : GoodShot r s) : isVotesI v := by
  obtain ⟨⟨g1, g2⟩, g3, g4⟩ := g
  have l := h.len
  exact ⟨by omega, by omega, fun y hy => ⟨h.pos y hy, by have := h.top y hy; omega⟩, by rw [h.sum]; omega, by rw [h.sum]; omega⟩
theorem rowOk_iff {r : Ru} {s : Shot} {v : List Int} (g : GoodShot r s) (hv : ∀ y ∈ v, 0 ≤ y) : rowOk r (s, v) = true ↔ VtS r s v := by
  have t0 := g.1.1
  unfold rowOk
  dsimp only
  rw [Bool.and_eq_true, Bool.and_eq_true, decide_eq_true_eq, decide_eq_true_eq, zip_all_iff]
  constructor
  · rintro ⟨⟨h1, h2⟩, h3⟩
    refine ⟨by omega, h2, hv, fun k i y e1 e2 => ?_⟩
    have := h3 k _ _ e1 e2
    unfold shownOk at this
    dsimp only at this
    rw [decide_eq_true_eq, shown_eq (by omega)] at this
    exact this
  · intro h
    refine ⟨⟨by rw [h.len], h.sum⟩, fun t a b e1 e2 => ?_⟩
    unfold shownOk
    dsimp only
    cases a with
    | none => rfl
    | some i =>
      dsimp only
      rw [decide_eq_true_eq, shown_eq (by omega)]
      exact h.num t i b e1 e2
theorem isHist_iff {r : Ru} {n : Nat} {ss : List Shot} {vs : List (List Int)} (G : GoodS r n ss) : isHist r ss (.list (vs.map eInts)) = true ↔ HsL r ss vs := by
  have e : isHist r ss (.list (vs.map eInts)) = (decide (((vs.map eInts).length : Int) = ss.length) && (vs.map eInts).all isVotes && goodHist r ss ((vs.map eInts).map toInts)) := rfl
  rw [e, toInts_map, List.length_map, Bool.and_eq_true, Bool.and_eq_true, decide_eq_true_eq]
  unfold goodHist
  rw [Bool.and_eq_true, zip_all_iff, zip_all_iff]
  constructor
  · rintro ⟨⟨h1, h2⟩, h3, h4⟩
    refine ⟨by omega, fun t s v e1 e2 => ?_, fun t v w e1 e2 => ?_⟩
    · have hm := List.mem_of_getElem? e2
      have := List.all_eq_true.mp h2 _ (List.mem_map_of_mem hm)
      obtain ⟨w, g, ew⟩ := isVotes_elim this
      have ew : v = w := by
        have := congrArg toInts ew
        rwa [toInts_e, toInts_e] at this
      subst ew
      exact (rowOk_iff (G.shot (List.mem_of_getElem? e1)) fun y hy => (g.2.2.1 y hy).1).mp (h3 t s v e1 e2)
    · exact allLe_iff.mp (h4 t v w e1 (by rw [List.getElem?_drop, Nat.add_comm]; exact e2))
  · intro h
    refine ⟨⟨by have := h.len; omega, ?_⟩, fun t s v e1 e2 => ?_, fun t v w e1 e2 => ?_⟩
    · rw [List.all_eq_true]
      intro d hd
      obtain ⟨v, hv, rfl⟩ := List.mem_map.mp hd
      obtain ⟨t, ht⟩ := List.mem_iff_getElem?.mp hv
      have hl := (List.getElem?_eq_some_iff.mp ht).1
      have hl' : t < ss.length := by rw [← h.len]; exact hl
      exact isVotes_eInts ((h.row t _ _ (List.getElem?_eq_getElem hl') ht).votes (G.shot (List.getElem_mem hl')))
    · have g := h.row t s v e1 e2
      exact (rowOk_iff (G.shot (List.mem_of_getElem? e1)) g.pos).mpr g
    · rw [List.getElem?_drop, Nat.add_comm] at e2
      exact allLe_iff.mpr (h.up t v w e1 e2)
theorem isHist_elim {r : Ru} {n : Nat} {ss : List Shot} {d : PD} (G : GoodS r n ss) (h : isHist r ss d = true) : ∃ vs, d = .list (vs.map eInts) ∧ HsL r ss vs := by
  cases d with
  | list ds =>
    have h0 := h
    have e : isHist r ss (.list ds) = (decide ((ds.length : Int) = ss.length) && ds.all isVotes && goodHist r ss (ds.map toInts)) := rfl
    rw [e, Bool.and_eq_true, Bool.and_eq_true] at h
    obtain ⟨vs, rfl, _⟩ := votes_elim h.1.2
    exact ⟨vs, rfl, (isHist_iff G).mp h0⟩
  | _ => cases h
/-! ### .. and the plain law's -/
theorem mat_at {vs : List (List Int)} {t k : Nat} {v : List Int} {y : Int} (h1 : vs[t]? = some v) (h2 : v[k]? = some y) : mat vs t k = y := by
  unfold mat
  rw [List.getD_eq_getElem?_getD (l := vs), h1]
  show v.getD k 0 = y
  rw [List.getD_eq_getElem?_getD, h2]
  rfl
theorem rng_in {r : Ru} {t y : Int} {x : Num} (ht : 0 < t) (h0 : 0 ≤ y) (h1 : y ≤ t) : (∃ p, ownR r t x = some p ∧ p.1 ≤ y ∧ y ≤ p.2) ↔ ∀ i, x = some i → numberM r y t = i := by
  cases x with
  | none => exact ⟨fun _ i h => (nomatch h), fun _ => ⟨(0, t), rfl, h0, h1⟩⟩
  | some j =>
    constructor
    · rintro ⟨p, hp, h2, h3⟩ i hi
      cases hi
      obtain ⟨q1, q2, _⟩ := rangeM_some hp
      exact (range_iff ht h0 h1).mp (by rw [← q1, ← q2]; exact ⟨h2, h3⟩)
    · intro h
      have := (range_iff ht h0 h1).mpr (h j rfl)
      refine ⟨(lowM r t j, highM r t j), ?_, this.1, this.2⟩
      show rangeM r t j = _
      unfold rangeM
      rw [if_pos (by omega)]
theorem rng_top {r : Ru} {t : Int} {x : Num} {p : Int × Int} (h : ownR r t x = some p) : p.2 ≤ t := by
  cases x with
  | none => cases h; exact Int.le_refl _
  | some j => exact (rangeM_some h).2.2.2.2
theorem HsL.hist {r : Ru} {n : Nat} {ss : List Shot} {vs : List (List Int)} (G : GoodS r n ss) (h : HsL r ss vs) : HistF ss.length n (tots ss) (rngs r ss) (mat vs) := by
  have row : ∀ t, t < ss.length → ∃ s v, ss[t]? = some s ∧ vs[t]? = some v ∧ VtS r s v ∧ v.length = n ∧ s.1 = (tots ss).getD t 0 := fun t ht => by
    obtain ⟨s, x, e1, _, _, _, e5⟩ := G.nums (k := 0) ht (by have := G.wide.1; omega)
    have hv := List.getElem?_eq_getElem (l := vs) (i := t) (by rw [h.len]; exact ht)
    have V := h.row t _ _ e1 hv
    exact ⟨s, _, e1, hv, V, by rw [V.len]; exact G.len s (List.mem_of_getElem? e1), e5⟩
  refine ⟨fun t k ht hk => ?_, fun t ht => ?_, fun t k ht hk => ?_⟩
  · obtain ⟨s, v, e1, e2, V, l, _⟩ := row t ht
    obtain ⟨s', x, f1, f2, f3, _, _⟩ := G.nums ht hk
    rw [e1] at f1
    cases f1
    have hy := List.getElem?_eq_getElem (l := v) (i := k) (by omega)
    have hm := List.mem_of_getElem? hy
    rw [rAt_rngs e1 f2, mat_at e2 hy]
    exact (rng_in (by omega) (V.pos _ hm) (V.top _ hm)).mpr fun i hi => by subst hi; exact V.num k i _ f2 hy
  · obtain ⟨s, v, e1, e2, V, l, e5⟩ := row t ht
    rw [← e5, ← V.sum, sum_sumN, l]
    refine sumN_eq fun k hk => ?_
    unfold mat
    rw [List.getD_eq_getElem?_getD (l := vs), e2]
    rfl
  · obtain ⟨s, v, e1, e2, V, l, _⟩ := row t (by omega)
    obtain ⟨s', v', e1', e2', V', l', _⟩ := row (t + 1) ht
    have hy := List.getElem?_eq_getElem (l := v) (i := k) (by omega)
    have hy' := List.getElem?_eq_getElem (l := v') (i := k) (by omega)
    rw [mat_at e2 hy, mat_at e2' hy']
    exact h.up t v v' e2 e2' k _ _ hy hy'
def rowsF (m n : Nat) (v : Nat → Nat → Int) : List (List Int) := (List.range m).map fun t => (List.range n).map (v t)
theorem rowsF_at {m n : Nat} {v : Nat → Nat → Int} {t : Nat} {w : List Int} (h : (rowsF m n v)[t]? = some w) : t < m ∧ w = (List.range n).map (v t) := by
  unfold rowsF at h
  rw [List.getElem?_map] at h
  obtain ⟨j, h1, h2⟩ := Option.map_eq_some_iff.mp h
  have hl := (List.getElem?_eq_some_iff.mp h1).1
  rw [List.length_range] at hl
  rw [List.getElem?_range hl] at h1
  cases h1
  exact ⟨hl, h2.symm⟩
theorem rowF_at {n : Nat} {f : Nat → Int} {k : Nat} {y : Int} (h : ((List.range n).map f)[k]? = some y) : k < n ∧ y = f k := by
  rw [List.getElem?_map] at h
  obtain ⟨j, h1, h2⟩ := Option.map_eq_some_iff.mp h
  have hl := (List.getElem?_eq_some_iff.mp h1).1
  rw [List.length_range] at hl
  rw [List.getElem?_range hl] at h1
  cases h1
  exact ⟨hl, h2.symm⟩
theorem sum_rowF {n : Nat} {f : Nat → Int} : ((List.range n).map f).sum = sumN n f := by
  rw [sum_sumN, List.length_map, List.length_range]
  refine sumN_eq fun k hk => ?_
  rw [List.getD_eq_getElem?_getD, List.getElem?_map, List.getElem?_range hk]
  rfl
theorem HistF.hsl {r : Ru} {n : Nat} {ss : List Shot} {v : Nat → Nat → Int} (G : GoodS r n ss) (h : HistF ss.length n (tots ss) (rngs r ss) v) : HsL r ss (rowsF ss.length n v) := by
  refine ⟨by unfold rowsF; rw [List.length_map, List.length_range], fun t s w e1 e2 => ?_, fun t w w' e1 e2 => ?_⟩
  · obtain ⟨ht, rfl⟩ := rowsF_at e2
    have sm := h.sum t ht
    obtain ⟨s0, x0, f1, _, f3, _, f5⟩ := G.nums (k := 0) ht (by have := G.wide.1; omega)
    rw [e1] at f1
    cases f1
    have inr : ∀ k, k < n → ∃ x, s.2[k]? = some x ∧ (∃ p, ownR r s.1 x = some p ∧ p.1 ≤ v t k ∧ v t k ≤ p.2) := fun k hk => by
      obtain ⟨s', x, g1, g2, g3, _, _⟩ := G.nums ht hk
      rw [e1] at g1
      cases g1
      obtain ⟨p, hp, h1, h2⟩ := h.inr t k ht hk
      rw [rAt_rngs e1 g2] at hp
      exact ⟨x, g2, p, hp, h1, h2⟩
    refine ⟨by rw [List.length_map, List.length_range, G.len s (List.mem_of_getElem? e1)], by rw [sum_rowF, sm, ← f5], fun y hy => ?_, fun k i y h1 h2 => ?_⟩
    · obtain ⟨k, hk⟩ := List.mem_iff_getElem?.mp hy
      obtain ⟨hkn, rfl⟩ := rowF_at hk
      obtain ⟨x, _, p, hp, h1, _⟩ := inr k hkn
      have := ownR_neg hp
      omega
    · obtain ⟨hk, rfl⟩ := rowF_at h2
      obtain ⟨x, g2, p, hp, p1, p2⟩ := inr k hk
      rw [h1] at g2
      cases g2
      have := ownR_neg hp
      have := rng_top hp
      exact (rng_in (by omega) (by omega) (by omega)).mp ⟨p, hp, p1, p2⟩ i rfl
  · obtain ⟨ht, rfl⟩ := rowsF_at e1
    obtain ⟨ht', rfl⟩ := rowsF_at e2
    intro k x y h1 h2
    obtain ⟨hk, rfl⟩ := rowF_at h1
    obtain ⟨_, rfl⟩ := rowF_at h2
    exact h.up t k ht' hk
theorem fits_hsl {r : Ru} {n : Nat} {ss : List Shot} (G : GoodS r n ss) : fitsM (tots ss) (rngs r ss) = true ↔ ∃ vs, HsL r ss vs := by
  rw [fits_iff G.shp (by unfold tots; rw [List.length_map])]
  exact ⟨fun ⟨v, h⟩ => ⟨_, h.hsl G⟩, fun ⟨vs, h⟩ => ⟨_, h.hist G⟩⟩
/-- what history returns is a history -/
theorem histOf_ok {r : Ru} {n : Nat} {ss : List Shot} (G : GoodS r n ss) (h : fitsM (tots ss) (rngs r ss) = true) : ∃ vs, histOf r n ss = .list (vs.map eInts) ∧ HsL r ss vs := by
  obtain ⟨v, h1, h2⟩ := histM_ok (G.can h)
  refine ⟨_, ?_, h1.hsl G⟩
  unfold histOf
  rw [if_pos h, h2]
  rfl
/-! ### drawn histories -/
theorem Crops.at {a b : List Shot} (h : Crops a b) : ∀ {t : Nat} {s : Shot}, b[t]? = some s → ∃ s0, a[t]? = some s0 ∧ CropOf s0 s := by
  induction h with
  | nil => intro t s e; simp at e
  | cons c _ ih =>
    intro t s e
    cases t with
    | zero => cases e; exact ⟨_, rfl, c⟩
    | succ t => exact ih (t := t) e
/-- fewer numbers: a history all the same -/
theorem HsL.crops {r : Ru} {a b : List Shot} {vs : List (List Int)} (h : HsL r a vs) (c : Crops a b) : HsL r b vs := by
  refine ⟨by rw [h.len, c.len], fun t s v e1 e2 => ?_, h.up⟩
  obtain ⟨s0, f1, f2, f3, f4⟩ := c.at e1
  have V := h.row t s0 v f1 e2
  refine ⟨by rw [V.len, f3], by rw [V.sum, f2], V.pos, fun k i y g1 g2 => ?_⟩
  have hk := (List.getElem?_eq_some_iff.mp g1).1
  have hx := List.getElem?_eq_getElem (l := s0.2) (i := k) (by omega)
  rcases f4 none _ _ k hx g1 with e | e
  · cases e
  · rw [f2]
    exact V.num k i y (by rw [hx, e]) g2
theorem PollRes.hsl {r : Ru} {n : Nat} {m w : Int} {rows : List (List Int)} {shots : List (Int × List Int)} (R : PollRes r n m w rows shots) : HsL r (shots.map shotOf) rows := by
  have e := R.shots
  subst e
  refine ⟨by rw [List.length_map, List.length_map], fun t s v e1 e2 => ?_, fun t v v' e1 e2 => ?_⟩
  · rw [List.getElem?_map, List.getElem?_map, e2] at e1
    cases e1
    have iv := (R.rows v (List.mem_of_getElem? e2)).2
    refine ⟨?_, rfl, fun y hy => (iv.2.2.1 y hy).1, fun k i y h1 h2 => ?_⟩
    · show v.length = ((numsM r v).map some).length
      unfold numsM
      rw [List.length_map, List.length_map]
    · have h1 : ((numsM r v).map some)[k]? = some (some i) := h1
      unfold numsM at h1
      rw [List.getElem?_map, List.getElem?_map, h2] at h1
      cases h1
      rfl
  · have hl := (List.getElem?_eq_some_iff.mp e2).1
    have q := List.pairwise_iff_getElem.mp R.up t (t + 1) (by omega) hl (by omega)
    rw [List.getElem?_eq_getElem (by omega)] at e1 e2
    cases e1
    cases e2
    exact q
end Pj

set_option Elab.async false
set_option linter.all false
set_option maxRecDepth 100000
/-! Qb: is True, is False; slices of shapes. -/
namespace Pj
open PySem PySem.Spec PyProof.Rows L2
section
variable {K : PySem.W.Frag} {a b : Bool}
theorem p2_isBl : P2 K rIsB (.bool a) (.bool b) (.va (.bool (decide (a = b)))) := fun F H vx vy Q e hx hy q => by
  cases hx; cases hy
  exact ⟨a, b, rfl, rfl, q F H _ (Xt.refl e) (.bl _)⟩
theorem p2_notBl : P2 K rNotB (.bool a) (.bool b) (.va (.bool (!decide (a = b)))) := fun F H vx vy Q e hx hy q => by
  cases hx; cases hy
  exact ⟨a, b, rfl, rfl, q F H _ (Xt.refl e) (.bl _)⟩
end
section
variable {X : Cx} {W : WX} {e : Expr} {ρ ρ1 : En} {a b : Bool} {l : Nat} {p2 pos : Pos}
theorem tj_isB (ha : EJ X W e ρ (.ok ρ1 (.va (.bool a)))) : TJ X W (.Compare e [.Is] [.Constant (.bool b) l p2] pos) ρ ρ1 (decide (a = b)) := tj_cmp op_isBl ha ej_bl p2_isBl
theorem tj_nisB (ha : EJ X W e ρ (.ok ρ1 (.va (.bool a)))) : TJ X W (.Compare e [.IsNot] [.Constant (.bool b) l p2] pos) ρ ρ1 (!decide (a = b)) := tj_cmp op_notBl ha ej_bl p2_notBl
theorem ej_isB (ha : EJ X W e ρ (.ok ρ1 (.va (.bool a)))) : EJ X W (.Compare e [.Is] [.Constant (.bool b) l p2] pos) ρ (.ok ρ1 (.va (.bool (decide (a = b))))) := ej_cmp op_isBl ha ej_bl p2_isBl
theorem ej_nisB (ha : EJ X W e ρ (.ok ρ1 (.va (.bool a)))) : EJ X W (.Compare e [.IsNot] [.Constant (.bool b) l p2] pos) ρ (.ok ρ1 (.va (.bool (!decide (a = b))))) := ej_cmp op_notBl ha ej_bl p2_notBl
end
theorem cutL_mem {α : Type} {xs : List α} {lo hi : Option Int} {a : α} (h : a ∈ cutL xs lo hi) : a ∈ xs := by
  unfold cutL at h
  exact List.mem_of_mem_drop (List.mem_of_mem_take h)
theorem cutL_len {α : Type} {xs : List α} {lo hi : Option Int} : (cutL xs lo hi).length ≤ xs.length := by
  unfold cutL
  rw [List.length_take, List.length_drop]
  omega
theorem eqv_bool (a b : Bool) : PyData.eqv (.bool a) (.bool b) = decide (a = b) := by cases a <;> cases b <;> rfl
theorem eqv_boolS (a : Bool) : PyData.eqv (.bool a) (.bool a) = true := by cases a <;> rfl
end Pj

set_option Elab.async false
set_option linter.all false
set_option maxRecDepth 100000
/-! Qc: set(list of ints) whose order can be walked; sorted(set(xs)). -/
namespace Pj
open PySem PySem.Spec PyProof.Rows L2
abbrev noSet (w : World) : Obj := { cls := .type "set", dict := none, data := .set #[] 0 (.fresh 0 0 (!w.params.followText "set-order")) }
section
variable {P : Program} {w : World} {A : Around} {E : Value → Shared → Prop} {st : Shared}
/-- what set(xs) leaves -/
def SetMade (w : World) (st : Shared) (zs : List Int) (r : Value) (s₂ : Shared) : Prop :=
  r = .none ∧ ∃ hp tok c, s₂ = { st with heap := hp, toks := tok } ∧ SetR w hp st.heap.objs.size (fun j => decide (j ∈ zs)) c ∧ c ≤ zs.length ∧ ∀ b o, st.heap.get? b = some o → hp.get? b = some o
set_option maxHeartbeats 6400000 in
theorem call_setL {l : Addr} {els : Array Value} (zs : List Int) {Q : Value → Shared → Prop} (hA : A.handled = none) (lst : st.heap.IsList l els) (hint : IntsAre els.toList zs) (few : zs.length + 1 < scanBound)
    (h : ∀ (hp : Heap) (tok c : Nat), SetR w hp st.heap.objs.size (fun j => decide (j ∈ zs)) c → c ≤ zs.length → (∀ b o, st.heap.get? b = some o → hp.get? b = some o) → Q (.ref st.heap.objs.size) { st with heap := hp, toks := tok }) :
    wpAny (model P w) A (call (.type "set") [.ref l]) Q E st := by
  have esz : els.size = zs.length := by
    have q := hint.length
    rwa [Array.length_toList] at q
  obtain ⟨c0, tl, z1⟩ := F.called_set.mro
  have z2 := F.called_set.made
  have z3 := F.called_set.sub
  refine wpAny_call (codeAny_of_tree (show wpAny _ _ (callAny (.type "set") _) _ _ _ from ?_))
  refine wpAny_pure ⟨Code.quiet_builtin _ (by decide +kernel), ?_⟩
  refine codeAny_builtin F.entry_type_call ?_
  rw [Around.under_plain (weight_type_call_type "set" [Value.ref l] ([])) rfl]
  have z4 := F.called_set.notType
  have z5 := F.called_set.canCreate
  have z6 := F.typeCall_set_1 (Value.ref l)
  repeat (any_goals (first | assumption | wp_step))
  refine codeAny_mono (code_set_led1 (Value.ref l) (E := E) (Q₁ := fun obj s₁ => obj = .ref st.heap.objs.size ∧ s₁ = { st with heap := st.heap.push (noSet w) }) ⟨rfl, rfl⟩) fun r s₁ hr => ?_
  cases r with
  | error e => exact hr
  | ok fl =>
    cases fl with
    | ret obj =>
      obtain ⟨rfl, rfl⟩ := hr
      have y1 : (st.heap.push (noSet w)).get? st.heap.objs.size = some (noSet w) := Heap.get?_push_size _ rfl
      have y2 : Shared.TypeIs { st with heap := st.heap.push (noSet w) } (.ref st.heap.objs.size) "set" := ⟨_, y1, rfl⟩
      have y3 := F.called_set.init.lookup
      have y4 := F.called_set.init.bind (.ref st.heap.objs.size)
      repeat (any_goals (first | assumption | wp_step))
      refine codeAny_mono (codeAny_call_builtin (R := wants (SetMade w st zs) E) F.called_set.init.plain F.entry_set_init (check_set_init_1 y2 ?_)) fun r₂ s₂ hr₂ => ?_
      · obtain ⟨⟨k1, k2, k3, k4⟩, g1, g2, nl, g3⟩ := lst
        simp only at g2 g3
        subst g2; subst g3
        have y5 : (st.heap.push (noSet w)).get? l = some { cls := .type "list", dict := k2, data := .seq els nl, slots := k4 } := Heap.get?_push_of_some _ g1
        have y6 := F.sub_list_set
        have y7 := F.sub_list_frozenset
        have y8 : (Value.type "list" == Value.type "dict") = false := by decide
        have y9 : (st.heap.push (noSet w)).IsList l els := ⟨_, y5, rfl, nl, rfl⟩
        unfold Builtin.«set.__init__» noKeywords Builtin.Frozenset.updateFrom
        generalize hit : pyIter = it
        wp_walk
        subst hit
        refine wpAny_pyIter_list y9 (wpAny_bind (wpAny_runValue ?_))
        have x1 : l < st.heap.objs.size := Heap.lt_size g1
        have x2 : A.in1.in1.in1.handled = none := by simp [hA]
        have x0 : (st.heap.push (noSet w)).objs.size = st.heap.objs.size + 1 := Heap.size_push ..
        have x3 : l ≠ (st.heap.push (noSet w)).objs.size := by rw [x0]; exact Nat.ne_of_lt (Nat.lt_succ_of_lt x1)
        have x4 : st.heap.objs.size ∉ [(st.heap.push (noSet w)).objs.size, l] := by
          rw [x0]
          intro z
          rcases List.mem_cons.mp z with z | z
          · exact absurd z (Nat.ne_of_lt (Nat.lt_succ_self _))
          · exact absurd (List.mem_singleton.mp z) (Nat.ne_of_gt x1)
        have x5 : ∀ (i : Nat) (v : Value), els[i]? = some v → ∃ k t, zs[i]? = some k ∧ v = .int k t := fun i v hv => by
          have hi : i < zs.length := esz ▸ (Array.getElem?_eq_some_iff.mp hv).1
          obtain ⟨t, e⟩ := PyProof.Rows.IntsAre.int_at hint i v (by rw [Array.getElem?_toList]; exact hv)
          exact ⟨zs[i], t, List.getElem?_eq_getElem hi, by rw [e, List.getD_eq_getElem?_getD, List.getElem?_eq_getElem hi]; rfl⟩
        refine set_update_ints ((Walks.list x2 _ l x3 els).toS) st.heap.objs.size x4 zs esz few x5 (els.size - 0) 0 _ (by omega) (Nat.zero_le _) ⟨⟨_, Heap.get?_push_size _ rfl, rfl, rfl⟩, (y9.push _)⟩ ?start ?fin
        case start =>
          have w1 : ((st.heap.push (noSet w)).push { cls := .type "list_iterator", data := .fields #[.ref l, .int 0 0] }).get? st.heap.objs.size = some (noSet w) := Heap.get?_push_of_some _ y1
          exact ⟨0, Nat.le_refl 0, setR_new_at w1⟩
        case fin =>
          intro s' c' hm hc' hS'
          obtain ⟨hp, gg, dd, tok, oo⟩ := s'
          have eg : gg = st.gens := hm.gens
          have ed : dd = st.drawn := hm.drawn
          have eo : oo = st.os := hm.os
          subst eg; subst ed; subst eo
          refine (show wpAny _ _ _ _ _ _ from wpAny_pure (show wpAny _ _ (ret Value.none) _ _ _ from wpAny_pure ?_))
          refine ⟨rfl, hp, tok, c', rfl, hS', esz ▸ hc', fun b o e => ?_⟩
          have b0 : b < st.heap.objs.size := Heap.lt_size e
          refine hm.heap b o (fun z => ?_) (Heap.get?_push_of_some _ (Heap.get?_push_of_some _ e))
          rcases List.mem_cons.mp z with z | z
          · exact absurd z (Nat.ne_of_lt b0)
          · exact absurd ((List.mem_singleton.mp z).trans x0) (Nat.ne_of_lt (Nat.lt_succ_of_lt b0))
      · cases r₂ with
        | error e => exact hr₂
        | ok fl₂ =>
          cases fl₂ with
          | ret r =>
            obtain ⟨rfl, hp, tok, c', rfl, h1', h2', h3'⟩ := hr₂
            repeat (any_goals (first | assumption | wp_step))
            exact h _ _ _ h1' h2' h3'
          | _ => exact hr₂.elim
    | _ => exact hr.elim
end
/-! ### sorted(set(xs)) -/
/-- the numbers that occur, rising -/
structure Rises (ns out : List Int) : Prop where
  up : out.Pairwise (· < ·)
  mem : ∀ k, k ∈ out ↔ k ∈ ns
theorem rises_one {ns a b : List Int} (ha : Rises ns a) (hb : Rises ns b) : a = b := by
  have key : ∀ {a b : List Int}, a.Pairwise (· < ·) → b.Pairwise (· < ·) → (∀ k, k ∈ a ↔ k ∈ b) → a = b := by
    intro a
    induction a with
    | nil =>
      intro b _ _ h
      cases b with
      | nil => rfl
      | cons y b => exact absurd ((h y).mpr List.mem_cons_self) (by simp)
    | cons x a ih =>
      intro b pa pb h
      cases b with
      | nil => exact absurd ((h x).mp List.mem_cons_self) (by simp)
      | cons y b =>
        rw [List.pairwise_cons] at pa pb
        have e : x = y := by
          rcases List.mem_cons.mp ((h x).mp List.mem_cons_self) with e | h1
          · exact e
          · rcases List.mem_cons.mp ((h y).mpr List.mem_cons_self) with e | h2
            · exact e.symm
            · have := pa.1 y h2; have := pb.1 x h1; omega
        subst e
        rw [ih pa.2 pb.2 fun k => ?_]
        constructor
        · intro hk
          rcases List.mem_cons.mp ((h k).mp (List.mem_cons_of_mem _ hk)) with e | h1
          · have := pa.1 k hk; omega
          · exact h1
        · intro hk
          rcases List.mem_cons.mp ((h k).mpr (List.mem_cons_of_mem _ hk)) with e | h1
          · have := pb.1 k hk; omega
          · exact h1
  exact key ha.up hb.up fun k => (ha.mem k).trans (hb.mem k).symm
def insI (x : Int) : List Int → List Int
  | [] => [x]
  | y :: ys => if x < y then x :: y :: ys else if x = y then y :: ys else y :: insI x ys
def riseI (ns : List Int) : List Int := ns.foldr insI []
theorem insI_mem {x : Int} : ∀ {ys : List Int} {k : Int}, k ∈ insI x ys ↔ k = x ∨ k ∈ ys
  | [], k => by simp [insI]
  | y :: ys, k => by
    unfold insI
    split
    · simp
    · split
      · rename_i h; subst h; simp
      · rw [List.mem_cons, insI_mem (ys := ys), List.mem_cons]
        constructor
        · rintro (h | h | h)
          · exact .inr (.inl h)
          · exact .inl h
          · exact .inr (.inr h)
        · rintro (h | h | h)
          · exact .inr (.inl h)
          · exact .inl h
          · exact .inr (.inr h)
theorem insI_up {x : Int} : ∀ {ys : List Int}, ys.Pairwise (· < ·) → (insI x ys).Pairwise (· < ·)
  | [], _ => by simp [insI]
  | y :: ys, h => by
    unfold insI
    rw [List.pairwise_cons] at h
    split
    · rename_i c
      rw [List.pairwise_cons, List.pairwise_cons]
      refine ⟨fun k hk => ?_, h⟩
      rcases List.mem_cons.mp hk with e | hk
      · omega
      · have := h.1 k hk; omega
    · split
      · rw [List.pairwise_cons]; exact h
      · rename_i c1 c2
        rw [List.pairwise_cons]
        refine ⟨fun k hk => ?_, insI_up h.2⟩
        rcases insI_mem.mp hk with e | hk
        · omega
        · exact h.1 k hk
theorem riseI_ok (ns : List Int) : Rises ns (riseI ns) := by
  induction ns with
  | nil => exact ⟨List.Pairwise.nil, fun k => Iff.rfl⟩
  | cons x ns ih =>
    refine ⟨insI_up ih.up, fun k => ?_⟩
    show k ∈ insI x (riseI ns) ↔ _
    rw [insI_mem, ih.mem, List.mem_cons]
section
variable {P : Program} {w : World} {A : Around} {E : Value → Shared → Prop} {st : Shared}
/-- sorted(s), any number of members -/
theorem sorted_setL {a : Addr} {S : Int → Bool} {n : Nat} {Q : Value → Shared → Prop} (R : SetR w st.heap a S n) (hA : A.handled = none)
    (h : ∀ s' p (out : Array Value) (c : Nat) (zs : List Int), (∀ b o, st.heap.get? b = some o → s'.heap.get? b = some o) → s'.gens = st.gens → s'.os = st.os → st.heap.objs.size ≤ p →
      s'.heap.get? p = some (seqObj "list" out c) → IntsAre out.toList zs → zs.Pairwise (· < ·) → (∀ k, k ∈ zs ↔ S k = true) → zs.length = n → n < scanBound → Q (.ref p) s') :
    wpAny (model P w) A (call (.builtin "sorted") [.ref a]) Q E st := by
  obtain ⟨o, es, ep, t, ho, hex, hd, g, nd, hm, hb, hf, hn, hr, hl⟩ := R
  refine Calls.call_function_entry kind_sorted plain_sorted entry_sorted (args_sorted1 _) ?_
  unfold Builtin.«sorted»
  refine wpAny_bind (m := checkCount "sorted" 1 1 _) (wpAny_pure (wpAny_bind (collect_set (A := A.in1) hA ⟨o, ho, hex.1, hd⟩ hf hb hr hl fun s1 vs k1 hz g1 o1 pm => ?_)))
  have vl : vs.length = n := by rw [pm.length_eq, List.length_map, Array.length_toList]; exact hn
  have vi : IntsAre vs (vs.map Builtin.Re.reRawOf) := ints_of vs fun v hv => by
    obtain ⟨e, he, q⟩ := List.mem_map.mp (pm.mem_iff.mp hv)
    obtain ⟨k, tk, e1, _⟩ := g e he
    exact ⟨k, tk, q ▸ e1⟩
  have vp : (vs.map Builtin.Re.reRawOf).Perm (es.toList.map keyOf) := by
    have q := pm.map Builtin.Re.reRawOf
    rwa [List.map_map] at q
  have nb : n < scanBound := hn ▸ hb
  have small : vs.length ≤ sizeLine := by rw [vl, sizeLine_eq]; unfold scanBound at nb; omega
  refine wpAny_bind (wpAny_newList ?_ small)
  have oL : (s1.heap.push (seqObj "list" vs.toArray 0)).get? s1.heap.objs.size = some (seqObj "list" vs.toArray 0) := Heap.get?_push_size _ rfl
  refine wpAny_bind (wpAny_holding (wpAny_call_entry slot_list_sort ⟨_, oL, rfl⟩ entry_list_sort (SrtO.list_sort_ord SrtO.swo_int oL small (fun h2 => SrtO.ints_sortable vi h2) fun out h1 h2 => ⟨_, rfl, ?_⟩) (args_list_sort _)))
  obtain ⟨z1, z2, z3⟩ := SrtO.ints_out vi h1 h2
  obtain ⟨c, hc⟩ := sortedHeap_at (vs := vs) (out := out.toArray) oL
  have pn : (out.map SrtO.iv).Perm (es.toList.map keyOf) := z2.trans vp
  refine wpAny_pure ⟨_, rfl, h _ s1.heap.objs.size out.toArray c (out.map SrtO.iv) (fun b u e => ?_) g1 o1 hz hc (by simpa using z1) (lt_of_le_nodup _ z3 (pn.nodup_iff.mpr nd)) (fun k => by rw [pn.mem_iff, ← hm k]) ?_ nb⟩
  · have q := k1 b u e
    have lt := Heap.lt_size q
    show (sortedHeap (s1.heap.push (seqObj "list" vs.toArray 0)) s1.heap.objs.size vs out.toArray).get? b = some u
    rw [sortedHeap_old (Nat.ne_of_lt lt) (by rw [size_push']; exact Nat.lt_succ_of_lt lt)]
    exact Heap.get?_push_of_some _ q
  · rw [pn.length_eq, List.length_map, Array.length_toList]; exact hn
end
def tSortSet (K : PySem.W.Frag) (ta : TE) : TE := fun σ H Q => ta σ H fun x H1 => ∃ (l : Addr) (ns : List Int), x = .ref l ∧ SqL K H1 l (ns.map V.int) ∧ ns.length ≤ 4000 ∧
  ∀ (out : List Int) (p : Addr), Rises ns out → H1 p = none → Q (.ref p) (upd H1 p (.lst (out.map V.int)))
section
variable {X : Cx} {W : WX} {lv : Nat} {a : Expr} {ρ ρ1 : En} {ns : List Int} {p p2 p3 pos : Pos}
/-- a rising list of n different numbers of a list -/
theorem rise_count {c : Nat} {ns out : List Int} (h : Rises ns out) {o : List Int} (ho : o.Pairwise (· < ·)) (hm : ∀ k, k ∈ o ↔ decide (k ∈ ns) = true) (hl : o.length = c) : out.length = c := by
  have : out = o := rises_one h ⟨ho, fun k => by rw [hm k, decide_eq_true_eq]⟩
  rw [this, hl]
theorem pe_sortSet {ta : TE} (hg : Gl X "sorted") (hm : X.mg "sorted" = none) (hg2 : Gl X "set") (hm2 : X.mg "set" = none) (ha : PE X a ta) (hc : X.calm = true)
    (na : starEach [a] X.env = (false, eval a X.env) :: starEach [] X.env := by rfl) : PE X (.Call (.Name "sorted" p) [.Call (.Name "set" p2) [a] [] p3] [] pos) (tSortSet X.K ta) := by
  refine ⟨fun pins s σ H Q I h => ?_⟩
  refine Call_ (ld_blt I hg hm (by decide +kernel : bootBuiltins "sorted" = some (.builtin "sorted")) ?_)
  refine PyProof.Rows.callWith_builtin1 (PyProof.Rows.args_cons ?_ rfl) rfl rfl
  refine Call_ (ld_blt I hg2 hm2 boot_set ?_)
  refine PyProof.Rows.callWith_type1 (PyProof.Rows.args_cons (thn (ha.run pins s σ H _ I h) fun v s1 ⟨x, H1, I1, r1, q1⟩ => PyProof.Rows.args_nil ?_) na) na rfl
  obtain ⟨l, ns, rfl, hq, hl, q1⟩ := q1
  cases r1
  obtain ⟨its, r, pl, hz⟩ := I1.list hq
  refine call_setL ns (I1.ok.hd hc) pl.isList (by simpa using RZ.intsAre_vals r) (by unfold scanBound; omega) fun h' tk c R1 hcn hk => ?_
  refine PyProof.Rows.args_nil ?_
  have I2 : Inv X pins σ H1 { s1 with heap := h', toks := tk } := I1.kept fun b o e => hk b o e
  refine sorted_setL (st := { s1 with heap := h', toks := tk }) R1 (I2.ok.hd hc) fun s2 p out n ks k g o hp hgt hi hs hm hl2 nb => ?_
  have rs : Rises ns ks := ⟨hs, fun k => by rw [hm k, decide_eq_true_eq]⟩
  have zlen : (ks.map V.int).length ≤ sizeLine := by rw [List.length_map, hl2, sizeLine_eq]; unfold scanBound at nb; omega
  have free : H1 p = none := I2.hok.fresh hp
  have J := I2.call (h' := s2.heap) (g' := s2.gens) (t' := s2.toks) (d' := s2.drawn) (ch := []) (Un.laid (o := .lst (ks.map V.int)) k hp free) (I2.hok.laid k hp ⟨zlen, out.toList, n, vals_of_ints hi, hgt⟩) (by rw [g]; exact I2.bare) (fun _ z => nomatch z)
  have e : s2 = { s1 with heap := s2.heap, gens := s2.gens, drawn := s2.drawn, toks := s2.toks } := by
    cases s2; cases s1; cases o; rfl
  rw [e]
  exact ⟨.ref p, _, J, rfl, q1 ks p rs free⟩
theorem ej_sortSet (C : Ok X W lv) (hm : X.mg "sorted" = none) (hm2 : X.mg "set" = none) (ha : EJ X W a ρ (.ok ρ1 (.va (.list (ns.map .int))))) (hl : ns.length ≤ 4000) (hg : Gl X "sorted" := by rfl) (hg2 : Gl X "set" := by rfl)
    (na : starEach [a] X.env = (false, eval a X.env) :: starEach [] X.env := by rfl) : EJ X W (.Call (.Name "sorted" p) [.Call (.Name "set" p2) [a] [] p3] [] pos) ρ (.ok ρ1 (.ow (.lst ((riseI ns).map .int)))) := by
  obtain ⟨t, h1, h2⟩ := ha
  refine ⟨_, pe_sortSet hg hm hg2 hm2 h1 C.calm na, fun F H σ Q R q => h2 F H σ _ R fun F1 H1 v x1 R1 q1 => ?_⟩
  cases q1.1 with
  | @lst l vs _ s1 d1 =>
    have e := DpAll.ints d1
    subst e
    refine ⟨l, ns, rfl, Same.seq R1.fh s1, hl, fun out p ho np => ?_⟩
    rw [rises_one ho (riseI_ok ns)]
    exact (q.pull x1).fin R1 (Xt.own R1.fh np) ⟨p, _, rfl, Same.free R1.fh np, upd_same, dpAll_ints _, np⟩
end
end Pj

set_option Elab.async false
set_option linter.all false
set_option maxRecDepth 100000
/-! Qd: the laws' own search for all histories. -/
namespace Pj
open PySem PySem.Spec PyProof.Rows L2
/-! ### all votes of a screenshot -/
def okN (r : Ru) (t : Int) (x : Num) (y : Int) : Bool := match x with
  | none => true
  | some i => decide (numberM r y t = i)
def valsT (rest : Int) (last : Bool) : List Int := if last then [rest] else (List.range (rest + 1).toNat).map fun k => ((k : Nat) : Int)
def tupRow (r : Ru) (t : Int) (x : Num) (last : Bool) (row : List Int) : List (List Int) := ((valsT (t - row.sum) last).filter (okN r t x)).map fun y => row ++ [y]
def tupStep (r : Ru) (t : Int) (n : Nat) (found : List (List Int)) (p : Num × Nat) : List (List Int) := found.flatMap (tupRow r t p.1 (decide ((p.2 : Int) = (n : Int) - 1)))
def tuplesM (r : Ru) (s : Shot) : List (List Int) := s.2.zipIdx.foldl (tupStep r s.1 s.2.length) [[]]
/-- the first j of the votes -/
structure PreT (r : Ru) (s : Shot) (j : Nat) (row : List Int) : Prop where
  len : row.length = j
  pos : ∀ y ∈ row, 0 ≤ y
  num : ∀ (k : Nat) (i y : Int), s.2[k]? = some (some i) → row[k]? = some y → numberM r y s.1 = i
  low : row.sum ≤ s.1
  end_ : j = s.2.length → row.sum = s.1
theorem foldl_at {α S : Type} (step : S → α → S) (P : Nat → S → Prop) : ∀ (l : List α) (j : Nat) (s : S), P j s → (∀ (i : Nat) a s, l[i]? = some a → P (j + i) s → P (j + i + 1) (step s a)) → P (j + l.length) (l.foldl step s)
  | [], _, _, h, _ => h
  | a :: l, j, s, h, t => by
    have := foldl_at step P l (j + 1) (step s a) (t 0 a s rfl h) fun i b u h1 h2 => by
      have := t (i + 1) b u h1 (by rw [show j + (i + 1) = j + 1 + i by omega]; exact h2)
      rwa [show j + (i + 1) + 1 = j + 1 + i + 1 by omega] at this
    rw [List.length_cons, show j + (l.length + 1) = j + 1 + l.length by omega]
    exact this
theorem valsT_mem {rest y : Int} {last : Bool} (h : 0 ≤ rest) : y ∈ valsT rest last ↔ 0 ≤ y ∧ y ≤ rest ∧ (last = true → y = rest) := by
  unfold valsT
  cases last with
  | true => rw [if_pos rfl, List.mem_singleton]; exact ⟨fun e => ⟨by omega, by omega, fun _ => e⟩, fun e => e.2.2 rfl⟩
  | false =>
    rw [if_neg Bool.false_ne_true, List.mem_map]
    constructor
    · rintro ⟨k, hk, rfl⟩
      rw [List.mem_range] at hk
      exact ⟨by omega, by omega, fun z => nomatch z⟩
    · rintro ⟨h1, h2, _⟩
      exact ⟨y.toNat, by rw [List.mem_range]; omega, by omega⟩
theorem nodup_inj {α β : Type} {f : α → β} (hf : ∀ a b, f a = f b → a = b) {l : List α} (h : l.Nodup) : (l.map f).Nodup := List.pairwise_map.mpr (h.imp fun ne e => ne (hf _ _ e))
theorem valsT_nodup (rest : Int) (last : Bool) : (valsT rest last).Nodup := by
  unfold valsT
  split
  · simp
  · exact nodup_inj (fun a b e => by omega) (List.nodup_range (n := (rest + 1).toNat))
theorem valsT_len {rest : Int} (last : Bool) : (valsT rest last).length = if last then 1 else (rest + 1).toNat := by
  unfold valsT
  split
  · rfl
  · rw [List.length_map, List.length_range]
theorem app1_inj {α : Type} {a b : List α} {x y : α} (h : a ++ [x] = b ++ [y]) : a = b ∧ x = y := by
  have := List.append_inj' h rfl
  exact ⟨this.1, by simpa using this.2⟩
def tupCap (s : Shot) (j : Nat) : Nat := (s.1.toNat + 1) ^ min j (s.2.length - 1)
structure TupInv (r : Ru) (s : Shot) (j : Nat) (found : List (List Int)) : Prop where
  mem : ∀ row, row ∈ found ↔ PreT r s j row
  nd : found.Nodup
  cap : found.length ≤ tupCap s j
theorem flatMap_len {α β : Type} {f : α → List β} {c : Nat} : ∀ {l : List α}, (∀ a ∈ l, (f a).length ≤ c) → (l.flatMap f).length ≤ l.length * c
  | [], _ => by simp
  | a :: l, h => by
    have := flatMap_len (l := l) fun b hb => h b (List.mem_cons_of_mem _ hb)
    have := h a List.mem_cons_self
    rw [List.flatMap_cons, List.length_append, List.length_cons, Nat.succ_mul]
    omega
theorem tupRow_len {r : Ru} {s : Shot} {x : Num} {last : Bool} {row : List Int} (h0 : 0 ≤ s.1) (hp : 0 ≤ row.sum) : (tupRow r s.1 x last row).length ≤ if last then 1 else s.1.toNat + 1 := by
  unfold tupRow
  rw [List.length_map]
  refine Nat.le_trans (List.length_filter_le _ _) ?_
  rw [valsT_len]
  split
  · exact Nat.le_refl _
  · omega
theorem sum_pos : ∀ {l : List Int}, (∀ y ∈ l, 0 ≤ y) → 0 ≤ l.sum
  | [], _ => by simp
  | y :: l, h => by
    have := sum_pos (l := l) fun z hz => h z (List.mem_cons_of_mem _ hz)
    have := h y List.mem_cons_self
    rw [List.sum_cons]
    omega
theorem tup_step {r : Ru} {s : Shot} {j : Nat} {x : Num} {found : List (List Int)} (h0 : 0 ≤ s.1) (hx : s.2[j]? = some x) (I : TupInv r s j found) : TupInv r s (j + 1) (tupStep r s.1 s.2.length found (x, j)) := by
  have hj := (List.getElem?_eq_some_iff.mp hx).1
  have lst : (decide ((j : Int) = (s.2.length : Int) - 1)) = true ↔ j + 1 = s.2.length := by rw [decide_eq_true_eq]; omega
  have step : ∀ row', row' ∈ tupStep r s.1 s.2.length found (x, j) ↔ ∃ row y, PreT r s j row ∧ y ∈ valsT (s.1 - row.sum) (decide ((j : Int) = (s.2.length : Int) - 1)) ∧ okN r s.1 x y = true ∧ row' = row ++ [y] := fun row' => by
    unfold tupStep
    rw [List.mem_flatMap]
    constructor
    · rintro ⟨row, h1, h2⟩
      unfold tupRow at h2
      obtain ⟨y, h3, h4⟩ := List.mem_map.mp h2
      obtain ⟨h5, h6⟩ := List.mem_filter.mp h3
      exact ⟨row, y, (I.mem row).mp h1, h5, h6, h4.symm⟩
    · rintro ⟨row, y, h1, h2, h3, rfl⟩
      exact ⟨row, (I.mem row).mpr h1, List.mem_map.mpr ⟨y, List.mem_filter.mpr ⟨h2, h3⟩, rfl⟩⟩
  refine ⟨fun row' => ?_, ?_, ?_⟩
  · rw [step]
    constructor
    · rintro ⟨row, y, P, hv, ho, rfl⟩
      have lo := P.low
      obtain ⟨v1, v2, v3⟩ := (valsT_mem (by omega)).mp hv
      refine ⟨by rw [List.length_append, P.len]; rfl, fun z hz => ?_, fun k i z h1 h2 => ?_, ?_, fun e => ?_⟩
      · rcases List.mem_append.mp hz with h | h
        · exact P.pos z h
        · rw [List.mem_singleton.mp h]; exact v1
      · by_cases c : k < row.length
        · rw [List.getElem?_append_left c] at h2
          exact P.num k i z h1 h2
        · rw [List.getElem?_append_right (by omega)] at h2
          have hk : k - row.length = 0 := by
            have := (List.getElem?_eq_some_iff.mp h2).1
            simp at this
            omega
          rw [hk] at h2
          cases h2
          have hkj : k = j := by have := P.len; omega
          subst hkj
          rw [hx] at h1
          cases h1
          exact of_decide_eq_true ho
      · rw [List.sum_append, List.sum_cons, List.sum_nil]; omega
      · rw [List.sum_append, List.sum_cons, List.sum_nil, v3 (lst.mpr e)]; omega
    · intro P
      have ne : row' ≠ [] := by
        intro e
        subst e
        have := P.len
        simp at this
      have er := (List.dropLast_concat_getLast ne).symm
      generalize row'.dropLast = row at er
      generalize row'.getLast ne = y at er
      subst er
      have lr : row.length = j := by have := P.len; simp at this; exact this
      have pr : ∀ z ∈ row, 0 ≤ z := fun z hz => P.pos z (List.mem_append_left _ hz)
      have py : 0 ≤ y := P.pos y (List.mem_append_right _ (List.mem_singleton.mpr rfl))
      have lo := P.low
      rw [List.sum_append, List.sum_cons, List.sum_nil] at lo
      refine ⟨row, y, ⟨lr, pr, fun k i z h1 h2 => P.num k i z h1 (by rw [List.getElem?_append_left (List.getElem?_eq_some_iff.mp h2).1]; exact h2), by omega, fun e => by omega⟩, (valsT_mem (by omega)).mpr ⟨py, by omega, fun e => ?_⟩, ?_, rfl⟩
      · have := P.end_ (lst.mp e)
        rw [List.sum_append, List.sum_cons, List.sum_nil] at this
        omega
      · unfold okN
        cases x with
        | none => rfl
        | some i => exact decide_eq_true (P.num j i y hx (by rw [List.getElem?_append_right (by omega), lr, Nat.sub_self]; rfl))
  · unfold tupStep
    have key : ∀ l : List (List Int), l.Nodup → (l.flatMap (tupRow r s.1 x (decide ((j : Int) = (s.2.length : Int) - 1)))).Nodup := fun l => by
      induction l with
      | nil => intro _; simp
      | cons a l ih =>
        intro nd
        rw [List.nodup_cons] at nd
        rw [List.flatMap_cons, List.nodup_append]
        refine ⟨?_, ih nd.2, fun u hu v hv e => ?_⟩
        · unfold tupRow
          exact nodup_inj (fun p q e => (app1_inj e).2) ((valsT_nodup _ _).filter _)
        · unfold tupRow at hu
          obtain ⟨y, _, rfl⟩ := List.mem_map.mp hu
          obtain ⟨b, hb, hv⟩ := List.mem_flatMap.mp hv
          unfold tupRow at hv
          obtain ⟨z, _, rfl⟩ := List.mem_map.mp hv
          rw [(app1_inj e).1] at nd
          exact nd.1 hb
    exact key found I.nd
  · unfold tupStep
    have cap := I.cap
    have := flatMap_len (l := found) (f := tupRow r s.1 x (decide ((j : Int) = (s.2.length : Int) - 1))) (c := if decide ((j : Int) = (s.2.length : Int) - 1) then 1 else s.1.toNat + 1) fun row hr => tupRow_len h0 (sum_pos ((I.mem row).mp hr).pos)
    refine Nat.le_trans this ?_
    unfold tupCap at cap ⊢
    by_cases e : j + 1 = s.2.length
    · rw [if_pos (lst.mpr e), Nat.mul_one, show min (j + 1) (s.2.length - 1) = min j (s.2.length - 1) by omega]
      exact cap
    · rw [if_neg (fun z => e (lst.mp z)), show min (j + 1) (s.2.length - 1) = min j (s.2.length - 1) + 1 by omega, Nat.pow_succ]
      exact Nat.mul_le_mul_right _ cap
theorem tup_start {r : Ru} {s : Shot} (h0 : 0 ≤ s.1) (hn : 1 ≤ s.2.length) : TupInv r s 0 [[]] := by
  refine ⟨fun row => ?_, by simp, ?_⟩
  · rw [List.mem_singleton]
    constructor
    · rintro rfl
      exact ⟨rfl, (fun y h => by cases h), (fun k i y _ h => by simp at h), by simpa using h0, fun e => by omega⟩
    · intro P
      exact List.length_eq_zero_iff.mp P.len
  · unfold tupCap
    rw [Nat.zero_min, Nat.pow_zero]
    exact Nat.le_refl 1
theorem tuples_inv {r : Ru} {s : Shot} (h0 : 0 ≤ s.1) (hn : 1 ≤ s.2.length) : TupInv r s s.2.length (tuplesM r s) := by
  have := foldl_at (tupStep r s.1 s.2.length) (TupInv r s) s.2.zipIdx 0 [[]] (tup_start h0 hn) fun i p found hp I => by
    rw [Nat.zero_add] at I ⊢
    obtain ⟨x, k⟩ := p
    rw [List.getElem?_zipIdx] at hp
    obtain ⟨y, h1, h2⟩ := Option.map_eq_some_iff.mp hp
    cases h2
    rw [Nat.zero_add]
    exact tup_step h0 h1 I
  rw [List.length_zipIdx, Nat.zero_add] at this
  exact this
/-- all votes of a screenshot, and no others -/
theorem tuples_mem {r : Ru} {s : Shot} (h0 : 0 ≤ s.1) (hn : 1 ≤ s.2.length) {v : List Int} : v ∈ tuplesM r s ↔ VtS r s v := by
  rw [(tuples_inv h0 hn).mem]
  exact ⟨fun P => ⟨P.len, P.end_ rfl, P.pos, P.num⟩, fun V => ⟨V.len, V.pos, V.num, by rw [V.sum]; exact Int.le_refl _, fun _ => V.sum⟩⟩
theorem tuples_len {r : Ru} {s : Shot} (h0 : 0 ≤ s.1) (hn : 1 ≤ s.2.length) : (tuplesM r s).length ≤ (s.1.toNat + 1) ^ (s.2.length - 1) := by
  have := (tuples_inv (r := r) h0 hn).cap
  unfold tupCap at this
  rwa [show min s.2.length (s.2.length - 1) = s.2.length - 1 by omega] at this
theorem cap_le {s : Shot} {j : Nat} (ht : s.1 ≤ 66) (hn : s.2.length ≤ 4) : tupCap s j ≤ 300763 := by
  unfold tupCap
  refine Nat.le_trans (Nat.pow_le_pow_left (show s.1.toNat + 1 ≤ 67 by omega) _) ?_
  exact Nat.pow_le_pow_right (n := 67) (by decide) (show min j (s.2.length - 1) ≤ 3 by omega)
/-! ### all histories -/
def fwdStep (rows : List (List (List Int))) (at_ : Nat) : List (List (List Int)) := rows.set at_ ((rows.getD at_ []).filter fun v => (rows.getD (at_ - 1) []).any fun o => allLe o v)
def bwdStep (rows : List (List (List Int))) (at_ : Nat) : List (List (List Int)) := rows.set at_ ((rows.getD at_ []).filter fun v => (rows.getD (at_ + 1) []).any fun w => allLe v w)
def downs (m : Nat) : List Nat := (List.range (m - 1)).map fun i => m - 2 - i
def fwdM (r : Ru) (ss : List Shot) : List (List (List Int)) := ((List.range (ss.length - 1)).map (· + 1)).foldl fwdStep (ss.map (tuplesM r))
def histsM (r : Ru) (ss : List Shot) : List (List (List Int)) := (downs ss.length).foldl bwdStep (fwdM r ss)
/-- v at t, with votes before it -/
def FwT (T : Nat → List (List Int)) (t : Nat) (v : List Int) : Prop := ∃ f : Nat → List Int, f t = v ∧ (∀ k, k ≤ t → f k ∈ T k) ∧ ∀ k, k < t → leAll (f k) (f (k + 1))
def FullT (T : Nat → List (List Int)) (m t : Nat) (v : List Int) : Prop := ∃ f : Nat → List Int, f t = v ∧ (∀ k, k < m → f k ∈ T k) ∧ ∀ k, k + 1 < m → leAll (f k) (f (k + 1))
theorem fwT_zero {T : Nat → List (List Int)} {v : List Int} : FwT T 0 v ↔ v ∈ T 0 :=
  ⟨fun ⟨f, h1, h2, _⟩ => h1 ▸ h2 0 (Nat.le_refl 0), fun h => ⟨fun _ => v, rfl, fun k hk => by rw [show k = 0 by omega]; exact h, fun k hk => absurd hk (Nat.not_lt_zero k)⟩⟩
theorem fwT_succ {T : Nat → List (List Int)} {t : Nat} {v : List Int} : FwT T (t + 1) v ↔ v ∈ T (t + 1) ∧ ∃ o, FwT T t o ∧ leAll o v := by
  constructor
  · rintro ⟨f, rfl, h2, h3⟩
    exact ⟨h2 _ (Nat.le_refl _), f t, ⟨f, rfl, fun k hk => h2 k (by omega), fun k hk => h3 k (by omega)⟩, h3 t (by omega)⟩
  · rintro ⟨h1, o, ⟨f, rfl, h2, h3⟩, h4⟩
    refine ⟨fun k => if k ≤ t then f k else v, if_neg (by omega), fun k hk => ?_, fun k hk => ?_⟩
    · dsimp only
      by_cases c : k ≤ t
      · rw [if_pos c]; exact h2 k c
      · rw [if_neg c, show k = t + 1 by omega]; exact h1
    · dsimp only
      rw [if_pos (by omega)]
      by_cases c : k + 1 ≤ t
      · rw [if_pos c]; exact h3 k (by omega)
      · rw [if_neg c, show k = t by omega]; exact h4
theorem fullT_last {T : Nat → List (List Int)} {m : Nat} {v : List Int} : FullT T (m + 1) m v ↔ FwT T m v :=
  ⟨fun ⟨f, h1, h2, h3⟩ => ⟨f, h1, fun k hk => h2 k (by omega), fun k hk => h3 k (by omega)⟩, fun ⟨f, h1, h2, h3⟩ => ⟨f, h1, fun k hk => h2 k (by omega), fun k hk => h3 k (by omega)⟩⟩
theorem fullT_step {T : Nat → List (List Int)} {m t : Nat} {v : List Int} (ht : t + 1 < m) : FullT T m t v ↔ FwT T t v ∧ ∃ w, FullT T m (t + 1) w ∧ leAll v w := by
  constructor
  · rintro ⟨f, rfl, h2, h3⟩
    exact ⟨⟨f, rfl, fun k hk => h2 k (by omega), fun k hk => h3 k (by omega)⟩, f (t + 1), ⟨f, rfl, h2, h3⟩, h3 t ht⟩
  · rintro ⟨⟨f, rfl, h2, h3⟩, w, ⟨g, rfl, g2, g3⟩, h4⟩
    refine ⟨fun k => if k ≤ t then f k else g k, if_pos (Nat.le_refl _), fun k hk => ?_, fun k hk => ?_⟩
    · dsimp only
      by_cases c : k ≤ t
      · rw [if_pos c]; exact h2 k c
      · rw [if_neg c]; exact g2 k hk
    · dsimp only
      by_cases c : k + 1 ≤ t
      · rw [if_pos (by omega), if_pos c]; exact h3 k (by omega)
      · by_cases c2 : k ≤ t
        · rw [if_pos c2, if_neg c, show k = t by omega]; exact h4
        · rw [if_neg c2, if_neg c]; exact g3 k hk
theorem any_allLe {rows : List (List Int)} {P : List Int → Bool} : rows.any P = true ↔ ∃ o ∈ rows, P o = true := List.any_eq_true
/-- what the rows hold -/
structure RowsI (n B m : Nat) (rows : List (List (List Int))) : Prop where
  len : rows.length = m
  cap : ∀ row ∈ rows, row.length ≤ B
  wide : ∀ row ∈ rows, ∀ v ∈ row, v.length = n
theorem rows_set {n B m : Nat} {rows : List (List (List Int))} {i : Nat} {P : List Int → Bool} (I : RowsI n B m rows) : RowsI n B m (rows.set i ((rows.getD i []).filter P)) := by
  by_cases hi : i < rows.length
  · have hm := (getD_mem (l := rows) (d := []) hi).1
    refine ⟨by rw [List.length_set]; exact I.len, fun row hr => ?_, fun row hr v hv => ?_⟩
    · rcases List.mem_or_eq_of_mem_set hr with h | h
      · exact I.cap row h
      · rw [h]; exact Nat.le_trans (List.length_filter_le _ _) (I.cap _ hm)
    · rcases List.mem_or_eq_of_mem_set hr with h | h
      · exact I.wide row h v hv
      · rw [h] at hv; exact I.wide _ hm v (List.mem_filter.mp hv).1
  · rw [List.set_eq_of_length_le (by omega)]; exact I
theorem getD_set {α : Type} {l : List α} {i j : Nat} {a d : α} (hi : i < l.length) : (l.set i a).getD j d = if j = i then a else l.getD j d := by
  rw [List.getD_eq_getElem?_getD, List.getD_eq_getElem?_getD, List.getElem?_set]
  by_cases c : i = j
  · subst c; rw [if_pos rfl, if_pos rfl, if_pos hi]; rfl
  · rw [if_neg c, if_neg (fun e => c e.symm)]
theorem fwd_spec {r : Ru} {ss : List Shot} {T : Nat → List (List Int)} (hT : ∀ k, k < ss.length → (ss.map (tuplesM r)).getD k [] = T k) (h1 : 1 ≤ ss.length) :
    ∀ j, j < ss.length → (((List.range j).map (· + 1)).foldl fwdStep (ss.map (tuplesM r))).length = ss.length ∧ ∀ k, k < ss.length → ∀ v, v ∈ (((List.range j).map (· + 1)).foldl fwdStep (ss.map (tuplesM r))).getD k [] ↔ if k ≤ j then FwT T k v else v ∈ T k
  | 0, hj => by
    refine ⟨by simp, fun k hk v => ?_⟩
    show v ∈ (ss.map (tuplesM r)).getD k [] ↔ _
    rw [hT k hk]
    by_cases c : k ≤ 0
    · rw [if_pos c, show k = 0 by omega, fwT_zero]
    · rw [if_neg c]
  | j + 1, hj => by
    obtain ⟨l, ih⟩ := fwd_spec hT h1 j (by omega)
    rw [List.range_succ, List.map_append, List.foldl_append]
    generalize ((List.range j).map (· + 1)).foldl fwdStep (ss.map (tuplesM r)) = rows at *
    show (fwdStep rows (j + 1)).length = _ ∧ ∀ k, k < ss.length → ∀ v, v ∈ (fwdStep rows (j + 1)).getD k [] ↔ _
    unfold fwdStep
    refine ⟨by rw [List.length_set]; exact l, fun k hk v => ?_⟩
    rw [getD_set (by omega), Nat.add_sub_cancel]
    by_cases c : k = j + 1
    · subst c
      rw [if_pos rfl, if_pos (Nat.le_refl _), List.mem_filter, ih (j + 1) hk, if_neg (by omega), any_allLe, fwT_succ]
      refine and_congr_right fun _ => exists_congr fun o => ?_
      rw [ih j (by omega), if_pos (Nat.le_refl _), allLe_iff]
    · rw [if_neg c, ih k hk]
      by_cases c2 : k ≤ j
      · rw [if_pos c2, if_pos (by omega)]
      · rw [if_neg c2, if_neg (by omega)]
theorem bwd_spec {T : Nat → List (List Int)} {m : Nat} {rows0 : List (List (List Int))} (l0 : rows0.length = m + 1) (h0 : ∀ k, k < m + 1 → ∀ v, v ∈ rows0.getD k [] ↔ FwT T k v) :
    ∀ j, j ≤ m → (((List.range j).map fun i => m + 1 - 2 - i).foldl bwdStep rows0).length = m + 1 ∧ ∀ k, k < m + 1 → ∀ v, v ∈ (((List.range j).map fun i => m + 1 - 2 - i).foldl bwdStep rows0).getD k [] ↔ if m ≤ k + j then FullT T (m + 1) k v else FwT T k v
  | 0, hj => by
    refine ⟨l0, fun k hk v => ?_⟩
    show v ∈ rows0.getD k [] ↔ _
    rw [h0 k hk]
    by_cases c : m ≤ k + 0
    · rw [if_pos c, show k = m by omega, fullT_last]
    · rw [if_neg c]
  | j + 1, hj => by
    obtain ⟨l, ih⟩ := bwd_spec l0 h0 j (by omega)
    rw [List.range_succ, List.map_append, List.foldl_append]
    generalize ((List.range j).map fun i => m + 1 - 2 - i).foldl bwdStep rows0 = rows at *
    show (bwdStep rows (m + 1 - 2 - j)).length = _ ∧ ∀ k, k < m + 1 → ∀ v, v ∈ (bwdStep rows (m + 1 - 2 - j)).getD k [] ↔ _
    unfold bwdStep
    refine ⟨by rw [List.length_set]; exact l, fun k hk v => ?_⟩
    rw [getD_set (by omega)]
    by_cases c : k = m + 1 - 2 - j
    · rw [if_pos c, if_pos (by omega), List.mem_filter, ← c, ih k hk, if_neg (by omega), any_allLe, fullT_step (by omega)]
      refine and_congr_right fun _ => exists_congr fun o => ?_
      rw [ih (k + 1) (by omega), if_pos (by omega), allLe_iff]
    · rw [if_neg c, ih k hk]
      by_cases c2 : m ≤ k + j
      · rw [if_pos c2, if_pos (by omega)]
      · rw [if_neg c2, if_neg (by omega)]
theorem hists_spec {r : Ru} {ss : List Shot} (h1 : 1 ≤ ss.length) (ht : ∀ s ∈ ss, 0 ≤ s.1) (hn : ∀ s ∈ ss, 1 ≤ s.2.length) : (histsM r ss).length = ss.length ∧ ∀ k, k < ss.length → ∀ v, v ∈ (histsM r ss).getD k [] ↔ ∃ vs, HsL r ss vs ∧ vs[k]? = some v := by
  obtain ⟨m, hm⟩ : ∃ m, ss.length = m + 1 := ⟨ss.length - 1, by omega⟩
  let T : Nat → List (List Int) := fun k => (ss.map (tuplesM r)).getD k []
  obtain ⟨l0, f0⟩ := fwd_spec (r := r) (ss := ss) (T := T) (fun k hk => rfl) h1 m (by omega)
  have e0 : ((List.range m).map (· + 1)).foldl fwdStep (ss.map (tuplesM r)) = fwdM r ss := by unfold fwdM; rw [hm]; rfl
  rw [e0] at l0 f0
  rw [hm] at l0
  obtain ⟨l1, f1⟩ := bwd_spec (T := T) l0 (fun k hk v => by rw [f0 k (by omega), if_pos (by omega)]) m (Nat.le_refl m)
  have e1 : ((List.range m).map fun i => m + 1 - 2 - i).foldl bwdStep (fwdM r ss) = histsM r ss := by unfold histsM downs; rw [hm]; rfl
  rw [e1] at l1 f1
  refine ⟨by rw [l1, hm], fun k hk v => ?_⟩
  rw [f1 k (by omega), if_pos (by omega)]
  have tm : ∀ (t : Nat) s, ss[t]? = some s → ∀ v, v ∈ T t ↔ VtS r s v := fun t s e v => by
    show v ∈ (ss.map (tuplesM r)).getD t [] ↔ _
    rw [List.getD_eq_getElem?_getD, List.getElem?_map, e]
    exact tuples_mem (ht s (List.mem_of_getElem? e)) (hn s (List.mem_of_getElem? e))
  constructor
  · rintro ⟨f, rfl, h2, h3⟩
    have at_ : ∀ (t : Nat) v, ((List.range ss.length).map f)[t]? = some v → t < ss.length ∧ v = f t := fun t v h => by
      rw [List.getElem?_map] at h
      obtain ⟨j, h1, h2⟩ := Option.map_eq_some_iff.mp h
      have hl := (List.getElem?_eq_some_iff.mp h1).1
      rw [List.length_range] at hl
      rw [List.getElem?_range hl] at h1
      cases h1
      exact ⟨hl, h2.symm⟩
    refine ⟨(List.range ss.length).map f, ⟨by rw [List.length_map, List.length_range], fun t s w e1 e2 => ?_, fun t w w' e1 e2 => ?_⟩, by rw [List.getElem?_map, List.getElem?_range hk]; rfl⟩
    · obtain ⟨hl, rfl⟩ := at_ t w e2
      exact (tm t s e1 _).mp (h2 t (by omega))
    · obtain ⟨_, rfl⟩ := at_ t w e1
      obtain ⟨hl, rfl⟩ := at_ (t + 1) w' e2
      exact h3 t (by omega)
  · rintro ⟨vs, H, e⟩
    refine ⟨fun t => vs.getD t [], by dsimp only; rw [List.getD_eq_getElem?_getD, e]; rfl, fun t ht' => ?_, fun t ht' => ?_⟩
    · have hv := (getD_mem (l := vs) (d := []) (show t < vs.length by rw [H.len]; omega)).2
      have hs := List.getElem?_eq_getElem (l := ss) (i := t) (by omega)
      exact (tm t _ hs _).mpr (H.row t _ _ hs hv)
    · exact H.up t _ _ (getD_mem (show t < vs.length by rw [H.len]; omega)).2 (getD_mem (show t + 1 < vs.length by rw [H.len]; omega)).2
end Pj

set_option Elab.async false
set_option linter.all false
set_option maxRecDepth 100000
/-! Qe: every number of votes between the least and the greatest occurs; spoiled screenshots. -/
namespace Pj
open PySem PySem.Spec PyProof.Rows L2
/-- histories v and w: every number between v i k and w i k occurs in one -/
theorem hist_between {m n : Nat} {ts : List Int} {rs : List (List Rng)} {v w : Nat → Nat → Int} (hv : HistF m n ts rs v) (hw : HistF m n ts rs w) {i k : Nat} (hi : i < m) (hk : k < n) {x : Int} (h1 : v i k ≤ x) (h2 : x ≤ w i k) : ∃ u, HistF m n ts rs u ∧ u i k = x := by
  have up : ∀ {v : Nat → Nat → Int}, HistF m n ts rs v → ∀ {t u k : Nat}, t ≤ u → u < m → k < n → v t k ≤ v u k := by
    intro v hv t u k htu
    induction htu with
    | refl => intro _ _; exact Int.le_refl _
    | step h ih =>
      intro hu hk
      have h1 := ih (by omega) hk
      have h2 := hv.up _ k hu hk
      exact Int.le_trans h1 h2
  let L : Nat → Nat → Int := fun t k => min (v t k) (w t k)
  let H : Nat → Nat → Int := fun t k => max (v t k) (w t k)
  let T : Nat → Int := fun t => ts.getD t 0
  let L' : Nat → Nat → Int := fun t l => if l = k ∧ i ≤ t then max (L t l) x else L t l
  let H' : Nat → Nat → Int := fun t l => if l = k ∧ t ≤ i then min (H t l) x else H t l
  have V1 : Vts m n T L' H w := by
    refine ⟨fun t l ht hl => ?_, fun t l ht hl => ?_, fun t ht => hw.sum t ht, fun t l ht hl => hw.up t l ht hl⟩
    · show (if l = k ∧ i ≤ t then max (min (v t l) (w t l)) x else min (v t l) (w t l)) ≤ w t l
      split
      · rename_i c
        have := up hw c.2 ht hl
        rw [c.1] at this ⊢
        omega
      · omega
    · show w t l ≤ max (v t l) (w t l)
      omega
  have V2 : Vts m n T L H' v := by
    refine ⟨fun t l ht hl => ?_, fun t l ht hl => ?_, fun t ht => hv.sum t ht, fun t l ht hl => hv.up t l ht hl⟩
    · show min (v t l) (w t l) ≤ v t l
      omega
    · show v t l ≤ (if l = k ∧ t ≤ i then min (max (v t l) (w t l)) x else max (v t l) (w t l))
      split
      · rename_i c
        have := up hv c.2 hi hl
        rw [c.1] at this ⊢
        omega
      · omega
  have C1 := V1.cnd
  have C2 := V2.cnd
  have C : Cnd m n T L' H' := by
    refine ⟨fun t l ht hl => ?_, C1.low, C2.high, fun t e ht he => ?_⟩
    · have a1 := C1.lh t l ht hl
      have a2 := C2.lh t l ht hl
      show (if l = k ∧ i ≤ t then max (L t l) x else L t l) ≤ (if l = k ∧ t ≤ i then min (H t l) x else H t l)
      have a1 : (if l = k ∧ i ≤ t then max (L t l) x else L t l) ≤ H t l := a1
      have a2 : L t l ≤ (if l = k ∧ t ≤ i then min (H t l) x else H t l) := a2
      split at a1 <;> split at a2 <;> omega
    · by_cases c1 : t < i
      · refine Int.le_trans (Int.le_of_eq (sumN_eq fun l hl => ?_)) (C2.grow t e ht he)
        show max 0 ((if l = k ∧ i ≤ t then max (L t l) x else L t l) - H' e l) = max 0 (L t l - H' e l)
        rw [if_neg (by omega)]
      · by_cases c2 : i < e
        · refine Int.le_trans (Int.le_of_eq (sumN_eq fun l hl => ?_)) (C1.grow t e ht he)
          show max 0 (L' t l - (if l = k ∧ e ≤ i then min (H e l) x else H e l)) = max 0 (L' t l - H e l)
          rw [if_neg (by omega)]
        · by_cases c3 : H e k < x
          · refine Int.le_trans (Int.le_of_eq (sumN_eq fun l hl => ?_)) (C1.grow t e ht he)
            show max 0 (L' t l - (if l = k ∧ e ≤ i then min (H e l) x else H e l)) = max 0 (L' t l - H e l)
            by_cases c4 : l = k
            · subst c4
              rw [if_pos ⟨rfl, by omega⟩]
              omega
            · rw [if_neg (fun z => c4 z.1)]
          · refine Int.le_trans (Int.le_of_eq (sumN_eq fun l hl => ?_)) (C2.grow t e ht he)
            show max 0 ((if l = k ∧ i ≤ t then max (L t l) x else L t l) - (if l = k ∧ e ≤ i then min (H e l) x else H e l)) = max 0 (L t l - (if l = k ∧ e ≤ i then min (H e l) x else H e l))
            by_cases c4 : l = k
            · subst c4
              rw [if_pos ⟨rfl, by omega⟩, if_pos ⟨rfl, by omega⟩]
              omega
            · rw [if_neg (fun z => c4 z.1), if_neg (fun z => c4 z.1)]
  have ML : Mono m n L' := ⟨fun t u l htu hu hl => by
    have a1 := up hv htu hu hl
    have a2 := up hw htu hu hl
    show (if l = k ∧ i ≤ t then max (min (v t l) (w t l)) x else min (v t l) (w t l)) ≤ (if l = k ∧ i ≤ u then max (min (v u l) (w u l)) x else min (v u l) (w u l))
    split <;> split <;> omega⟩
  have MH : Mono m n H' := ⟨fun t u l htu hu hl => by
    have a1 := up hv htu hu hl
    have a2 := up hw htu hu hl
    show (if l = k ∧ t ≤ i then min (max (v t l) (w t l)) x else max (v t l) (w t l)) ≤ (if l = k ∧ u ≤ i then min (max (v u l) (w u l)) x else max (v u l) (w u l))
    split <;> split <;> omega⟩
  obtain ⟨u, U⟩ := Cnd.vts C ML MH
  refine ⟨u, ⟨fun t l ht hl => ?_, U.sum, U.up⟩, ?_⟩
  · obtain ⟨p, hp, p1, p2⟩ := hv.inr t l ht hl
    obtain ⟨q, hq, q1, q2⟩ := hw.inr t l ht hl
    rw [hp] at hq
    cases hq
    have lo : (if l = k ∧ i ≤ t then max (min (v t l) (w t l)) x else min (v t l) (w t l)) ≤ u t l := U.lo t l ht hl
    have hi' : u t l ≤ (if l = k ∧ t ≤ i then min (max (v t l) (w t l)) x else max (v t l) (w t l)) := U.hi t l ht hl
    refine ⟨p, hp, ?_, ?_⟩
    · split at lo <;> omega
    · split at hi' <;> omega
  · have lo : (if k = k ∧ i ≤ i then max (min (v i k) (w i k)) x else min (v i k) (w i k)) ≤ u i k := U.lo i k hi hk
    have hi' : u i k ≤ (if k = k ∧ i ≤ i then min (max (v i k) (w i k)) x else max (v i k) (w i k)) := U.hi i k hi hk
    rw [if_pos ⟨rfl, Nat.le_refl _⟩] at lo hi'
    omega
theorem Can.vals {m n : Nat} {ts : List Int} {rs : List (List Rng)} (c : Can m n ts rs) {i k : Nat} (hi : i < m) (hk : k < n) {x : Int} : (∃ v, HistF m n ts rs v ∧ v i k = x) ↔ smallM ts rs i k ≤ x ∧ x ≤ largeM ts rs i k := by
  obtain ⟨⟨v, v1, v2⟩, v3⟩ := c.small hi hk
  obtain ⟨⟨w, w1, w2⟩, w3⟩ := c.large hi hk
  constructor
  · rintro ⟨u, u1, rfl⟩
    exact ⟨v3 u u1, w3 u u1⟩
  · rintro ⟨h1, h2⟩
    exact hist_between v1 w1 hi hk (by omega) (by omega)
/-- the numbers of votes of an option in all histories -/
theorem hsl_vals {r : Ru} {n : Nat} {ss : List Shot} (G : GoodS r n ss) (h : fitsM (tots ss) (rngs r ss) = true) {i k : Nat} (hi : i < ss.length) (hk : k < n) {x : Int} : (∃ vs v, HsL r ss vs ∧ vs[i]? = some v ∧ v[k]? = some x) ↔ smallM (tots ss) (rngs r ss) i k ≤ x ∧ x ≤ largeM (tots ss) (rngs r ss) i k := by
  rw [← (G.can h).vals hi hk]
  constructor
  · rintro ⟨vs, v, H, e1, e2⟩
    exact ⟨mat vs, H.hist G, mat_at e1 e2⟩
  · rintro ⟨v, H, rfl⟩
    refine ⟨rowsF ss.length n v, (List.range n).map (v i), H.hsl G, ?_, ?_⟩
    · unfold rowsF; rw [List.getElem?_map, List.getElem?_range hi]; rfl
    · rw [List.getElem?_map, List.getElem?_range hk]; rfl
def rngI (lo hi : Int) : List Int := (List.range (hi - lo + 1).toNat).map fun k => lo + ((k : Nat) : Int)
theorem rngI_mem {lo hi x : Int} : x ∈ rngI lo hi ↔ lo ≤ x ∧ x ≤ hi := by
  unfold rngI
  rw [List.mem_map]
  constructor
  · rintro ⟨k, hk, rfl⟩
    rw [List.mem_range] at hk
    omega
  · rintro ⟨h1, h2⟩
    exact ⟨(x - lo).toNat, by rw [List.mem_range]; omega, by omega⟩
theorem rngI_up (lo hi : Int) : (rngI lo hi).Pairwise (· < ·) := by
  unfold rngI
  rw [List.pairwise_map]
  exact List.pairwise_lt_range.imp fun h => by omega
theorem rngI_len {lo hi : Int} : (rngI lo hi).length = (hi - lo + 1).toNat := by unfold rngI; rw [List.length_map, List.length_range]
theorem rngI_first {lo hi : Int} (h : lo ≤ hi) : atI ((rngI lo hi).map PyData.int) 0 = some (.int lo) := by
  refine atI_nat (j := 0) ?_
  unfold rngI
  rw [List.map_map, List.getElem?_map, List.getElem?_range (by omega)]
  show some (PyData.int (lo + ((0 : Nat) : Int))) = _
  rw [Int.natCast_zero, Int.add_zero]
theorem rngI_last {lo hi : Int} (h : lo ≤ hi) : atI ((rngI lo hi).map PyData.int) (-1) = some (.int hi) := by
  unfold atI ixN
  rw [List.length_map, rngI_len, if_neg (by decide), if_pos (by omega)]
  show ((rngI lo hi).map PyData.int)[_]? = _
  unfold rngI
  rw [List.map_map, List.getElem?_map, List.getElem?_range (by omega)]
  show some (PyData.int _) = _
  show some (PyData.int (lo + (((-1 + (((hi - lo + 1).toNat : Nat) : Int)).toNat : Nat) : Int))) = _
  congr 2
  omega
theorem riseI_rng {ns : List Int} {lo hi : Int} (h : ∀ x, x ∈ ns ↔ lo ≤ x ∧ x ≤ hi) : riseI ns = rngI lo hi := rises_one (riseI_ok ns) ⟨rngI_up lo hi, fun x => by rw [rngI_mem, h]⟩
/-! ### spoiled screenshots -/
def more6 (t : Int) : Int := toI (pickM [.int 0, .int 0, .int 0, .int 0, .int 1, .int (-1)] t)
def more5 (t : Int) : Int := toI (pickM [.int 0, .int 0, .int 0, .int 1, .int (-1)] t)
def spoilN (r : Ru) (b : Bg) (x : Num) : Num × Bg := (x.map fun i => max 0 (min (scl r) (i + more6 (takeM b 6).1)), (takeM b 6).2)
def spoilS (r : Ru) (st : List Shot × Bg) (s : Shot) : List Shot × Bg :=
  (st.1 ++ [(max 1 (s.1 + more5 (takeM (mapS (spoilN r) s.2 st.2).2 5).1), (mapS (spoilN r) s.2 st.2).1)], (takeM (mapS (spoilN r) s.2 st.2).2 5).2)
def spoilM (r : Ru) (b : Bg) (ss : List Shot) : List Shot × Bg := ss.foldl (spoilS r) ([], b)
def M_law_spoiled (c : Ct) (ds : List PD) (c' : Ct) (o : PO) : Prop := ∃ (b : Bg) (r : Ru) (ss : List Shot), b.ok ∧ r.ok ∧ ss.length ≤ 100 ∧ (∀ s ∈ ss, s.2.length ≤ 100) ∧ c = eBg b ∧ ds = [eRu r, eShots ss] ∧ c' = eBg (spoilM r b ss).2 ∧ o = .ok (.va (eShots (spoilM r b ss).1))
theorem pick6 {t : Int} (h1 : 0 ≤ t) (h2 : t < 6) : pickM [.int 0, .int 0, .int 0, .int 0, .int 1, .int (-1)] t = .int (more6 t) ∧ -1 ≤ more6 t ∧ more6 t ≤ 1 := by
  have : t = 0 ∨ t = 1 ∨ t = 2 ∨ t = 3 ∨ t = 4 ∨ t = 5 := by omega
  rcases this with e | e | e | e | e | e <;> subst e <;> exact ⟨rfl, by decide, by decide⟩
theorem pick5 {t : Int} (h1 : 0 ≤ t) (h2 : t < 5) : pickM [.int 0, .int 0, .int 0, .int 1, .int (-1)] t = .int (more5 t) ∧ -1 ≤ more5 t ∧ more5 t ≤ 1 := by
  have : t = 0 ∨ t = 1 ∨ t = 2 ∨ t = 3 ∨ t = 4 := by omega
  rcases this with e | e | e | e | e <;> subst e <;> exact ⟨rfl, by decide, by decide⟩
theorem spoilN_inv {r : Ru} (ns : List Num) {b : Bg} (hb : b.ok) : (mapS (spoilN r) ns b).2.ok ∧ ∀ (i : Nat) x y, ns[i]? = some x → (mapS (spoilN r) ns b).1[i]? = some y → GoodN r y :=
  mapS_inv (f := spoilN r) Bg.ok (fun _ y => GoodN r y) hb fun x b _ hb => ⟨fun i hi => by
    unfold spoilN at hi
    obtain ⟨j, _, rfl⟩ := Option.map_eq_some_iff.mp hi
    have := scl_pos r
    omega, (takeM_ok hb (n := 6) (by decide)).1⟩
/-- a screenshot with other numbers, the total changed by one at most -/
def SpoilOf (r : Ru) (s s' : Shot) : Prop := s'.2.length = s.2.length ∧ (∀ x ∈ s'.2, GoodN r x) ∧ 1 ≤ s'.1 ∧ (1 ≤ s.1 → s.1 - 1 ≤ s'.1 ∧ s'.1 ≤ s.1 + 1)
inductive Spoils (r : Ru) : List Shot → List Shot → Prop
  | nil : Spoils r [] []
  | cons {s s' : Shot} {ss ss' : List Shot} : SpoilOf r s s' → Spoils r ss ss' → Spoils r (s :: ss) (s' :: ss')
theorem spoil_one {r : Ru} {b : Bg} {s : Shot} (hb : b.ok) : (takeM (mapS (spoilN r) s.2 b).2 5).2.ok ∧ SpoilOf r s (max 1 (s.1 + more5 (takeM (mapS (spoilN r) s.2 b).2 5).1), (mapS (spoilN r) s.2 b).1) := by
  obtain ⟨h1, h2⟩ := spoilN_inv (r := r) s.2 hb
  obtain ⟨t1, t2, t3⟩ := takeM_ok h1 (n := 5) (by decide)
  obtain ⟨_, m1, m2⟩ := pick5 t2 t3
  refine ⟨t1, mapS_length _ _ _, fun x hx => ?_, by show 1 ≤ max 1 _; omega, fun h => ?_⟩
  · obtain ⟨i, hi⟩ := List.mem_iff_getElem?.mp hx
    have hl := (List.getElem?_eq_some_iff.mp hi).1
    rw [mapS_length] at hl
    exact h2 i _ _ (List.getElem?_eq_getElem hl) hi
  · show s.1 - 1 ≤ max 1 _ ∧ max 1 _ ≤ s.1 + 1
    omega
theorem spoil_fold {r : Ru} : ∀ (ss : List Shot) (st : List Shot × Bg), st.2.ok → (ss.foldl (spoilS r) st).2.ok ∧ ∃ ss', (ss.foldl (spoilS r) st).1 = st.1 ++ ss' ∧ Spoils r ss ss'
  | [], st, h => ⟨h, [], by simp, .nil⟩
  | s :: ss, st, h => by
    rw [List.foldl_cons]
    obtain ⟨k, o⟩ := spoil_one (r := r) (s := s) h
    obtain ⟨h1, ss', h2, h3⟩ := spoil_fold ss (spoilS r st s) k
    refine ⟨h1, _ :: ss', ?_, .cons o h3⟩
    rw [h2]
    show (st.1 ++ [_]) ++ ss' = _
    rw [List.append_assoc]
    rfl
theorem Spoils.len {r : Ru} {a b : List Shot} (h : Spoils r a b) : b.length = a.length := by
  induction h with
  | nil => rfl
  | cons _ _ ih => rw [List.length_cons, List.length_cons, ih]
theorem Spoils.at {r : Ru} {a b : List Shot} (h : Spoils r a b) : ∀ {t : Nat} {s : Shot}, b[t]? = some s → ∃ s0, a[t]? = some s0 ∧ SpoilOf r s0 s := by
  induction h with
  | nil => intro t s e; simp at e
  | cons c _ ih =>
    intro t s e
    cases t with
    | zero => cases e; exact ⟨_, rfl, c⟩
    | succ t => exact ih (t := t) e
theorem Spoils.good {r : Ru} {n : Nat} {ss ss' : List Shot} (G : GoodS r n ss) (h : Spoils r ss ss') (ht : ∀ s ∈ ss, s.1 < 1000000) : GoodS r n ss' := by
  have key : ∀ s' ∈ ss', ∃ s ∈ ss, SpoilOf r s s' := fun s' hs => by
    obtain ⟨t, e⟩ := List.mem_iff_getElem?.mp hs
    obtain ⟨s, h1, h2⟩ := h.at e
    exact ⟨s, List.mem_of_getElem? h1, h2⟩
  refine ⟨G.rule, G.wide, by rw [h.len]; exact G.cnt, fun s' hs => ?_, fun s' hs => ?_, fun s' hs => ?_⟩
  · obtain ⟨s, h1, h2, h3, h4, h5⟩ := key s' hs
    have := h5 (G.tot s h1).1
    have := ht s h1
    omega
  · obtain ⟨s, h1, h2, _⟩ := key s' hs
    rw [h2, G.len s h1]
  · obtain ⟨s, h1, h2, h3, _⟩ := key s' hs
    exact h3
theorem spoil_ex {r : Ru} {b : Bg} {ss : List Shot} (h : b.ok) (hr : r.ok) (hl : ss.length ≤ 100) (hs : ∀ s ∈ ss, s.2.length ≤ 100) : ∃ ss' b', b'.ok ∧ Spoils r ss ss' ∧ M_law_spoiled (eBg b) [eRu r, eShots ss] (eBg b') (.ok (.va (eShots ss'))) := by
  obtain ⟨h1, ss', h2, h3⟩ := spoil_fold (r := r) ss ([], b) h
  refine ⟨ss', _, h1, h3, b, r, ss, h, hr, hl, hs, rfl, rfl, rfl, ?_⟩
  unfold spoilM
  rw [h2]
  rfl
end Pj

set_option Elab.async false
set_option linter.all false
set_option maxRecDepth 100000
/-! Qf: promises of the search for histories; range downwards. -/
namespace Pj
open PySem PySem.Spec PyProof.Rows L2
def downD (i : Int) (n : Nat) : List PD := (List.range n).map fun k => .int (i - (k : Nat))
theorem downD_get {lo : Int} {n i : Nat} {d : PD} (h : (downD lo n)[i]? = some d) : d = .int (lo - i) ∧ i < n := by
  unfold downD at h
  rw [List.getElem?_map] at h
  obtain ⟨j, h1, h2⟩ := Option.map_eq_some_iff.mp h
  have hl := (List.getElem?_eq_some_iff.mp h1).1
  rw [List.length_range] at hl
  rw [List.getElem?_range hl] at h1
  cases h1
  exact ⟨h2.symm, hl⟩
theorem wk_down {K : PySem.W.Frag} {F0 : Hp} {lo : Int} {n : Nat} : Wk K F0 (Itc lo (-1) n) (downD lo n) := by
  refine ⟨⟨fun _ => True, fun _ _ _ _ => trivial, fun i H hi _ => ?_, fun H _ => ?_, fun i d F H x H' e s1 s2 y => ?_⟩⟩
  · exact (show i < n by simpa [downD] using hi)
  · exact (show n ≤ (downD lo n).length by simp [downD])
  · obtain ⟨e1, e2⟩ := y
    obtain ⟨rfl, _⟩ := downD_get e
    subst e1
    subst e2
    rw [show lo + (i : Int) * (-1) = lo - (i : Int) by omega]
    exact ⟨F, Xt.refl s2, .int _⟩
section
variable {X : Cx} {W : WX} {tg a b c : Expr} {ρ ρ1 : En} {i j : Int} {p pos : Pos}
theorem it_down (h : AJ X W [a, b, c] ρ ρ1 [.int i, .int j, .int (-1)]) (h1 : -(2 ^ 62) ≤ i ∧ i < 2 ^ 62 ∧ -(2 ^ 62) ≤ j ∧ j < 2 ^ 62) (hm : X.mg "range" = none) (hg : Gl X "range" := by rfl)
    (hs : starEach [a, b, c] X.env = (false, eval a X.env) :: starEach [b, c] X.env := by rfl) (hpl : (backTo pos (starEach [b, c] X.env)).any (·.1) = false := by rfl) :
    ItJ X W tg (.Call (.Name "range" p) [a, b, c] [] pos) ρ ρ1 (downD i (i - j).toNat) := by
  obtain ⟨t, a1, a2⟩ := h
  refine ⟨_, pi_range3 hg hm a1 hs hpl, fun F H σ R RR q => a2 F H σ _ RR fun F1 H1 vs x1 R1 q1 => ?_⟩
  cases q1 with
  | cons r q1 =>
    cases r
    cases q1 with
    | cons r q1 =>
      cases r
      cases q1 with
      | cons r q1 =>
        cases q1
        cases r
        exact ⟨i, j, -1, (i - j).toNat, rfl, RgC.neg h1.1 h1.2.1 h1.2.2.1 h1.2.2.2, q F1 H1 _ x1 R1 wk_down⟩
end
def eVs (row : List (List Int)) : PD := .list (row.map eInts)
def eHis (rows : List (List (List Int))) : PD := .list (rows.map eVs)
def M_law_under (ds : List PD) (o : PO) : Prop := ∃ a b : List Int, a.length ≤ 100 ∧ ds = [eInts a, eInts b] ∧ o = .ok (.va (.bool (allLe a b)))
def M_law_tuples (ds : List PD) (o : PO) : Prop := ∃ (r : Ru) (s : Shot), r.ok ∧ (1 ≤ s.1 ∧ s.1 ≤ 66) ∧ (2 ≤ s.2.length ∧ s.2.length ≤ 4) ∧ ds = [eRu r, eShot s] ∧ o = .ok (.va (eVs (tuplesM r s)))
def M_law_histories (ds : List PD) (o : PO) : Prop := ∃ (r : Ru) (n : Nat) (ss : List Shot), GoodS r n ss ∧ n ≤ 4 ∧ (∀ s ∈ ss, s.1 ≤ 66) ∧ ds = [eRu r, eShots ss] ∧ o = .ok (.va (eHis (histsM r ss)))
theorem m_law_under {a b : List Int} (h : a.length ≤ 100) : M_law_under [eInts a, eInts b] (.ok (.va (.bool (allLe a b)))) := ⟨a, b, h, rfl, rfl⟩
theorem m_law_tuples {r : Ru} {s : Shot} (h : r.ok) (h1 : 1 ≤ s.1 ∧ s.1 ≤ 66) (h2 : 2 ≤ s.2.length ∧ s.2.length ≤ 4) : M_law_tuples [eRu r, eShot s] (.ok (.va (eVs (tuplesM r s)))) := ⟨r, s, h, h1, h2, rfl, rfl⟩
theorem m_law_histories {r : Ru} {n : Nat} {ss : List Shot} (G : GoodS r n ss) (h : n ≤ 4) (h1 : ∀ s ∈ ss, s.1 ≤ 66) : M_law_histories [eRu r, eShots ss] (.ok (.va (eHis (histsM r ss)))) := ⟨r, n, ss, G, h, h1, rfl, rfl⟩
theorem foldl_flat {α β : Type} (f : α → List β) : ∀ (l : List α) (acc : List β), l.foldl (fun acc a => acc ++ f a) acc = acc ++ l.flatMap f
  | [], acc => by simp
  | a :: l, acc => by rw [List.foldl_cons, foldl_flat f l, List.flatMap_cons, List.append_assoc]
theorem foldl_filter {α β : Type} (p : α → Bool) (f : α → β) : ∀ (l : List α) (acc : List β), l.foldl (fun acc a => if p a then acc ++ [f a] else acc) acc = acc ++ (l.filter p).map f
  | [], acc => by simp
  | a :: l, acc => by
    rw [List.foldl_cons, foldl_filter p f l]
    cases h : p a with
    | true => rw [if_pos rfl, List.filter_cons_of_pos h, List.map_cons, List.append_assoc]; rfl
    | false => rw [if_neg Bool.false_ne_true, List.filter_cons_of_neg (by rw [h]; exact Bool.false_ne_true)]
theorem zw_gt (a b : List Int) : (((a.zip b).filter fun p => decide (p.2 < p.1)) = []) ↔ allLe a b = true := by
  rw [List.filter_eq_nil_iff, ← zw_all, List.all_eq_true]
  constructor
  · intro h p hp
    have := h p hp
    rw [decide_eq_true_eq] at this
    exact decide_eq_true (by omega)
  · intro h p hp
    have := of_decide_eq_true (h p hp)
    rw [decide_eq_true_eq]
    omega
/-- [1 for ..] == [] -/
theorem ones_nil {α : Type} (l : List α) (p : α → Bool) : PyData.eqv (.list ((l.filter p).map fun _ => PyData.int 1)) (.list []) = !l.any p := by
  cases h : l.filter p with
  | nil =>
    have : l.any p = false := by
      rw [Bool.eq_false_iff]
      intro z
      obtain ⟨a, h1, h2⟩ := List.any_eq_true.mp z
      have := List.mem_filter.mpr ⟨h1, h2⟩
      rw [h] at this
      cases this
    rw [this]; rfl
  | cons a t =>
    have : l.any p = true := by
      have := List.mem_filter.mp (show a ∈ l.filter p by rw [h]; exact List.mem_cons_self)
      exact List.any_eq_true.mpr ⟨a, this.1, this.2⟩
    rw [this]; rfl
theorem ones_sh {α : Type} (l : List α) : SeqAt.shaped (.list (l.map fun _ => PyData.int 1)) = true := (shLm (k := 1) fun _ _ => shI).shaped
theorem tj_any {α : Type} {l : List α} {p : α → Bool} {X : Cx} {W : WX} {e : Expr} {ρ ρ1 : En} (h : TJ X W e ρ ρ1 (!!l.any p)) : TJ X W e ρ ρ1 (l.any p) := by rwa [Bool.not_not] at h
/-! ### an own list is from now on a value -/
section
variable {X : Cx} {W : WX} {sts : List Stmt} {ρ : En} {o : SO} {po : PO} {ds : List PD}
theorem BJ.frz0 (i : Nat) (h : BJ X W sts (ρ.set i (.va (.list ds))) o) (hd : ρ[i]? = some (.ow (.lst ds)) := by rfl) : BJ X W sts ρ o := by
  obtain ⟨t, h1, h2⟩ := h
  refine ⟨t, h1, fun F H σ D R q => ?_⟩
  obtain ⟨a, vs, _, _, _, _, R', x, _⟩ := re_frz R hd
  exact h2 _ _ _ _ R' (q.pull x)
theorem FJ.frz0 (i : Nat) (h : FJ X W sts (ρ.set i (.va (.list ds))) po) (hd : ρ[i]? = some (.ow (.lst ds)) := by rfl) : FJ X W sts ρ po := by
  cases po with
  | ok r =>
    rcases h with ⟨ρ', g⟩ | ⟨e, ρ', g⟩
    · exact .inl ⟨ρ', BJ.frz0 i g hd⟩
    · exact .inr ⟨e, ρ', BJ.frz0 i g hd⟩
  | ex n p =>
    obtain ⟨ρ', g⟩ := h
    exact ⟨ρ', BJ.frz0 i g hd⟩
end
section
variable {X : Cx} {W : WX} {lv : Nat} {a : Expr} {ρ ρ1 : En} {n : Int} {p p2 p3 pos : Pos}
/-- list(range(n)) -/
theorem ej_lstRng (C : Ok X W lv) (hm : X.mg "list" = none) (hm2 : X.mg "range" = none) (ha : EJ X W a ρ (.ok ρ1 (.va (.int n)))) (hn : 0 ≤ n ∧ n ≤ 16777216) (hg : Gl X "list" := by rfl) (hg2 : Gl X "range" := by rfl)
    (na : starEach [a] X.env = (false, eval a X.env) :: starEach [] X.env := by rfl) (nb : starEach [.Call (.Name "range" p2) [a] [] p3] X.env = (false, eval (.Call (.Name "range" p2) [a] [] p3) X.env) :: starEach [] X.env := by rfl) :
    EJ X W (.Call (.Name "list" p) [.Call (.Name "range" p2) [a] [] p3] [] pos) ρ (.ok ρ1 (.ow (.lst ((List.range n.toNat).map fun k => .int (k : Nat))))) := by
  obtain ⟨t, h1, h2⟩ := ha
  refine ⟨_, pe_listRg C.calm hg hm (prg_1 hg2 hm2 h1 na) nb, fun F H σ Q R q => h2 F H σ _ R fun F1 H1 v x1 R1 q1 => ?_⟩
  cases (show Dp X.K F1 v (.int n) from q1.1)
  refine ⟨n, rfl, RgOk.of_le (Int.le_refl 0) hn.2 (by decide) hn.1, fun p np => ?_⟩
  refine (q.pull x1).fin R1 (Xt.own R1.fh np) ⟨p, _, rfl, Same.free R1.fh np, upd_same, ?_, np⟩
  have e : rgV 0 n = ((List.range n.toNat).map fun k => ((k : Nat) : Int)).map V.int := by
    unfold rgV
    rw [List.map_map, Int.sub_zero]
    exact List.map_congr_left fun k _ => by show V.int (0 + ((k : Nat) : Int)) = V.int ((k : Nat) : Int); rw [Int.zero_add]
  rw [e]
  have := dpAll_ints (K := X.K) (F := F1) ((List.range n.toNat).map fun k => ((k : Nat) : Int))
  rw [List.map_map (g := PyData.int)] at this
  exact this
end
end Pj

set_option Elab.async false
set_option linter.all false
set_option maxRecDepth 100000
/-! Qg: the votes of all histories, as the laws gather them. -/
namespace Pj
open PySem PySem.Spec PyProof.Rows L2
section
variable {r : Ru} {n : Nat} {ss : List Shot}
theorem GoodS.hists (G : GoodS r n ss) : (histsM r ss).length = ss.length ∧ ∀ k, k < ss.length → ∀ v, v ∈ (histsM r ss).getD k [] ↔ ∃ vs, HsL r ss vs ∧ vs[k]? = some v :=
  hists_spec G.cnt.1 (fun s hs => by have := G.tot s hs; omega) (fun s hs => by have := G.len s hs; have := G.wide; omega)
theorem GoodS.hist_row (G : GoodS r n ss) {k : Nat} (hk : k < ss.length) {v : List Int} (h : v ∈ (histsM r ss).getD k []) : ∃ s, ss[k]? = some s ∧ VtS r s v ∧ v.length = n := by
  obtain ⟨vs, H, e⟩ := (G.hists.2 k hk v).mp h
  have hs := List.getElem?_eq_getElem hk
  have V := H.row k _ v hs e
  exact ⟨_, hs, V, by rw [V.len]; exact G.len _ (List.getElem_mem hk)⟩
/-- one history for all: none of the rows is empty, or all are -/
theorem GoodS.hist_ne (G : GoodS r n ss) {k : Nat} (hk : k < ss.length) : (histsM r ss).getD k [] ≠ [] ↔ fitsM (tots ss) (rngs r ss) = true := by
  rw [fits_hsl G]
  constructor
  · intro h
    obtain ⟨v, hv⟩ := List.exists_mem_of_ne_nil _ h
    obtain ⟨vs, H, _⟩ := (G.hists.2 k hk v).mp hv
    exact ⟨vs, H⟩
  · rintro ⟨vs, H⟩ e
    have := (G.hists.2 k hk vs[k]!).mpr ⟨vs, H, by rw [List.getElem!_eq_getElem?_getD, List.getElem?_eq_getElem (by rw [H.len]; exact hk)]; rfl⟩
    rw [e] at this
    cases this
theorem GoodS.hist_any (G : GoodS r n ss) : (histsM r ss).any List.isEmpty = !fitsM (tots ss) (rngs r ss) := by
  have l := G.hists.1
  have c := G.cnt
  cases h : fitsM (tots ss) (rngs r ss) with
  | true =>
    rw [Bool.not_true, List.any_eq_false]
    intro row hr
    obtain ⟨k, hk⟩ := List.mem_iff_getElem?.mp hr
    have hl := (List.getElem?_eq_some_iff.mp hk).1
    have := (G.hist_ne (k := k) (by omega)).mpr h
    rw [List.getD_eq_getElem?_getD, hk] at this
    have : row ≠ [] := this
    rw [List.isEmpty_iff]
    exact this
  | false =>
    rw [Bool.not_false, List.any_eq_true]
    have e : (histsM r ss).getD 0 [] = [] := by
      apply Classical.byContradiction
      intro z
      have := (G.hist_ne (k := 0) (by omega)).mp z
      rw [h] at this
      cases this
    exact ⟨_, (getD_mem (l := histsM r ss) (i := 0) (d := []) (by omega)).1, by rw [e]; rfl⟩
theorem GoodS.hist_len (G : GoodS r n ss) {k : Nat} {s : Shot} (hs : ss[k]? = some s) : ((histsM r ss).getD k []).length ≤ (s.1.toNat + 1) ^ (n - 1) := by
  have hk := (List.getElem?_eq_some_iff.mp hs).1
  have hm := List.mem_of_getElem? hs
  have l := G.len s hm
  have w := G.wide
  have t := G.tot s hm
  -- each row is a part of its screenshot's own votes
  have key : ∀ (F : List (List (List Int)) → Nat → List (List (List Int))), (∀ rows a, (F rows a).length = rows.length ∧ ((F rows a).getD k []).length ≤ (rows.getD k []).length) → ∀ (l : List Nat) (rows : List (List (List Int))), ((l.foldl F rows).getD k []).length ≤ (rows.getD k []).length := fun F hF l => by
    induction l with
    | nil => exact fun rows => Nat.le_refl _
    | cons a l ih => exact fun rows => Nat.le_trans (ih _) (hF rows a).2
  have set_ : ∀ (rows : List (List (List Int))) (a : Nat) (P : List Int → Bool), (rows.set a ((rows.getD a []).filter P)).length = rows.length ∧ ((rows.set a ((rows.getD a []).filter P)).getD k []).length ≤ (rows.getD k []).length := fun rows a P => by
    refine ⟨List.length_set .., ?_⟩
    by_cases ha : a < rows.length
    · rw [getD_set ha]
      split
      · rename_i e; subst e; exact List.length_filter_le _ _
      · exact Nat.le_refl _
    · rw [List.set_eq_of_length_le (by omega)]
      exact Nat.le_refl _
  have h1 := key bwdStep (fun rows a => set_ rows a _) (downs ss.length) (fwdM r ss)
  have h2 := key fwdStep (fun rows a => set_ rows a _) ((List.range (ss.length - 1)).map (· + 1)) (ss.map (tuplesM r))
  have h3 : ((ss.map (tuplesM r)).getD k []).length ≤ (s.1.toNat + 1) ^ (n - 1) := by
    rw [List.getD_eq_getElem?_getD, List.getElem?_map, hs]
    show (tuplesM r s).length ≤ _
    have := tuples_len (r := r) (s := s) (by omega) (by omega)
    rwa [l] at this
  exact Nat.le_trans h1 (Nat.le_trans h2 h3)
/-- the numbers of votes of option k, as the laws gather them -/
def colOf (rows : List (List Int)) (k : Nat) : List Int := rows.map fun v => v.getD k 0
theorem GoodS.col_mem (G : GoodS r n ss) {i k : Nat} (hi : i < ss.length) (hk : k < n) {x : Int} : x ∈ colOf ((histsM r ss).getD i []) k ↔ ∃ vs v, HsL r ss vs ∧ vs[i]? = some v ∧ v[k]? = some x := by
  unfold colOf
  rw [List.mem_map]
  constructor
  · rintro ⟨v, hv, rfl⟩
    obtain ⟨_, _, _, l⟩ := G.hist_row hi hv
    obtain ⟨vs, H, e⟩ := (G.hists.2 i hi v).mp hv
    exact ⟨vs, v, H, e, by rw [List.getD_eq_getElem?_getD, List.getElem?_eq_getElem (by omega)]; rfl⟩
  · rintro ⟨vs, v, H, e1, e2⟩
    exact ⟨v, (G.hists.2 i hi v).mpr ⟨vs, H, e1⟩, by rw [List.getD_eq_getElem?_getD, e2]; rfl⟩
theorem GoodS.col_rise (G : GoodS r n ss) (h : fitsM (tots ss) (rngs r ss) = true) {i k : Nat} (hi : i < ss.length) (hk : k < n) : riseI (colOf ((histsM r ss).getD i []) k) = rngI (smallM (tots ss) (rngs r ss) i k) (largeM (tots ss) (rngs r ss) i k) :=
  riseI_rng fun x => (G.col_mem hi hk).trans (hsl_vals G h hi hk)
theorem GoodS.small_le (G : GoodS r n ss) (h : fitsM (tots ss) (rngs r ss) = true) {i k : Nat} (hi : i < ss.length) (hk : k < n) : smallM (tots ss) (rngs r ss) i k ≤ largeM (tots ss) (rngs r ss) i k := by
  obtain ⟨⟨v, v1, v2⟩, _⟩ := (G.can h).small hi hk
  obtain ⟨_, w⟩ := (G.can h).large hi hk
  rw [← v2]
  exact w v v1
theorem pair_len {lo hi : Int} : ∀ {l : List Int}, l.Pairwise (· < ·) → (∀ x ∈ l, lo ≤ x ∧ x ≤ hi) → (l.length : Int) ≤ max 0 (hi - lo + 1)
  | [], _, _ => by simp; omega
  | x :: l, p, h => by
    rw [List.pairwise_cons] at p
    have hx := h x List.mem_cons_self
    have := pair_len (lo := x + 1) (hi := hi) p.2 fun y hy => ⟨by have := p.1 y hy; omega, (h y (List.mem_cons_of_mem _ hy)).2⟩
    rw [List.length_cons]
    omega
theorem GoodS.col_few (G : GoodS r n ss) {i k : Nat} {s : Shot} (hs : ss[i]? = some s) (hk : k < n) (ht : s.1 ≤ 60) : (riseI (colOf ((histsM r ss).getD i []) k)).length < 64 := by
  have R := riseI_ok (colOf ((histsM r ss).getD i []) k)
  have hi := (List.getElem?_eq_some_iff.mp hs).1
  have := pair_len (lo := 0) (hi := 60) R.up fun x hx => by
    obtain ⟨vs, v, H, e1, e2⟩ := (G.col_mem hi hk).mp ((R.mem x).mp hx)
    have V := H.row i s v hs e1
    have hm := List.mem_of_getElem? e2
    have := V.pos x hm
    have := V.top x hm
    omega
  omega
def dueD (r : Ru) (n : Nat) (ss : List Shot) : PD := if (histsM r ss).any List.isEmpty then .none else .list ((histsM r ss).map fun rows => .list ((List.range n).map fun k => eLst (riseI (colOf rows k))))
def M_law_due (ds : List PD) (o : PO) : Prop := ∃ (r : Ru) (n : Nat) (ss : List Shot), GoodS r n ss ∧ n ≤ 3 ∧ (∀ s ∈ ss, s.1 ≤ 60) ∧ ds = [eRu r, eShots ss] ∧ o = .ok (.va (dueD r n ss))
theorem m_law_due (G : GoodS r n ss) (hn : n ≤ 3) (h : ∀ s ∈ ss, s.1 ≤ 60) : M_law_due [eRu r, eShots ss] (.ok (.va (dueD r n ss))) := ⟨r, n, ss, G, hn, h, rfl, rfl⟩
theorem due_no (G : GoodS r n ss) (h : fitsM (tots ss) (rngs r ss) = false) : dueD r n ss = .none := by
  unfold dueD
  rw [G.hist_any, h]
  rfl
theorem map_getD {α β : Type} {f : α → β} {l : List α} {d : α} {m : Nat} (h : l.length = m) : l.map f = (List.range m).map fun i => f (l.getD i d) := by
  apply List.ext_getElem?
  intro i
  rw [List.getElem?_map, List.getElem?_map]
  by_cases c : i < m
  · rw [List.getElem?_range c, List.getElem?_eq_getElem (by omega)]
    show some _ = some (f (l.getD i d))
    rw [List.getD_eq_getElem?_getD, List.getElem?_eq_getElem (by omega)]
    rfl
  · rw [List.getElem?_eq_none (by omega), List.getElem?_eq_none (by rw [List.length_range]; omega)]
    rfl
theorem due_yes (G : GoodS r n ss) (h : fitsM (tots ss) (rngs r ss) = true) : dueD r n ss = .list ((List.range ss.length).map fun i => .list ((List.range n).map fun k => eLst (rngI (smallM (tots ss) (rngs r ss) i k) (largeM (tots ss) (rngs r ss) i k)))) := by
  unfold dueD
  rw [G.hist_any, h, if_neg (by decide), map_getD (d := []) G.hists.1]
  congr 1
  refine List.map_congr_left fun i hi => ?_
  rw [List.mem_range] at hi
  congr 1
  refine List.map_congr_left fun k hk => ?_
  rw [List.mem_range] at hk
  rw [G.col_rise h hi hk]
theorem bnds_yes (h : fitsM (tots ss) (rngs r ss) = true) : bndsOf r n ss = .list ((List.range ss.length).map fun i => .list ((List.range n).map fun k => ePr (smallM (tots ss) (rngs r ss) i k, largeM (tots ss) (rngs r ss) i k))) := by
  unfold bndsOf
  rw [if_pos h]
  unfold eBnds boundsM
  rw [List.map_map]
  congr 1
  refine List.map_congr_left fun i _ => ?_
  show PyData.list _ = _
  rw [List.map_map]
  rfl
theorem zip_same {α : Type} : ∀ l : List α, l.zip l = l.map fun a => (a, a)
  | [] => rfl
  | a :: l => by rw [List.zip_cons_cons, zip_same l, List.map_cons]
theorem at_last {ss : List Shot} (h : 1 ≤ ss.length) : atI (ss.map eShot) (-1) = some (eShot (ss.getD (ss.length - 1) (0, []))) := by
  unfold atI ixN
  rw [List.length_map, if_neg (by decide), if_pos (by omega)]
  show (ss.map eShot)[_]? = _
  rw [show (-1 + (ss.length : Int)).toNat = ss.length - 1 by omega, List.getElem?_map, (getD_mem (l := ss) (d := (0, [])) (show ss.length - 1 < ss.length by omega)).2]
  rfl
theorem noB_ePr (p : Int × Int) : noB (ePr p) = true := rfl
theorem noB_list {α : Type} {l : List α} {f : α → PD} (h : ∀ a ∈ l, noB (f a) = true) : noB (.list (l.map f)) = true := noBs_map h
theorem noB_tup {α : Type} {l : List α} {f : α → PD} (h : ∀ a ∈ l, noB (f a) = true) : noB (.tuple (l.map f)) = true := noBs_map h
end
/-- the totals of a drawn poll -/
theorem PollRes.tots {r : Ru} {n : Nat} {m w : Int} {rows : List (List Int)} {shots : List (Int × List Int)} (R : PollRes r n m w rows shots) {B : Int} (h : n * (w + (m - 1) * (w / 3 + 2)) ≤ B) : ∀ s ∈ shots.map shotOf, s.1 ≤ B := fun s hs => by
  rw [R.shots] at hs
  obtain ⟨p, hp, rfl⟩ := List.mem_map.mp hs
  obtain ⟨v, hv, rfl⟩ := List.mem_map.mp hp
  have := R.top v hv
  show v.sum ≤ B
  omega
theorem Crops.tots {a b : List Shot} (h : Crops a b) {B : Int} (hB : ∀ s ∈ a, s.1 ≤ B) : ∀ s ∈ b, s.1 ≤ B := fun s hs => by
  obtain ⟨t, e⟩ := List.mem_iff_getElem?.mp hs
  obtain ⟨s0, f1, f2, _⟩ := h.at e
  rw [f2]
  exact hB s0 (List.mem_of_getElem? f1)
theorem Spoils.tots {r : Ru} {a b : List Shot} (h : Spoils r a b) {B : Int} (hB : ∀ s ∈ a, 1 ≤ s.1 ∧ s.1 ≤ B) : ∀ s ∈ b, s.1 ≤ B + 1 := fun s hs => by
  obtain ⟨t, e⟩ := List.mem_iff_getElem?.mp hs
  obtain ⟨s0, f1, f2⟩ := h.at e
  have := hB s0 (List.mem_of_getElem? f1)
  have := f2.2.2.2 this.1
  omega
theorem nil_in (rows : List (List (List Int))) : ((rows.map eVs).any fun y => PyData.eqv y (.list [])) = rows.any List.isEmpty := by
  rw [List.any_map]
  congr 1
  funext row
  show PyData.eqv (eVs row) (.list []) = row.isEmpty
  cases row <;> rfl
theorem shVs (row : List (List Int)) : ShD 3 (eVs row) := shLm fun v _ => shInts v
theorem shHis (rows : List (List (List Int))) : ShD 4 (eHis rows) := shLm fun row _ => shVs row
end Pj

set_option Elab.async false
set_option linter.all false
set_option maxRecDepth 100000
/-! Qh: what certain.py and later.py compute; an own list handed back. -/
namespace Pj
open PySem PySem.Spec PyProof.Rows L2
/-! ### return of an own list by its name -/
def FJO (X : Cx) (W : WX) (rest : List Stmt) (ρ : En) (c : Ct) : Prop := ∃ (ρ' : En) (t : TS), PSs X rest t ∧ ∀ (H0 F H : Hp) (σ : L2.St) (D : Ends), RE X.K F H σ ρ → (∀ i a, OwAt σ ρ i a → H0 a = none) → (∀ b, H b = none → H0 b = none) →
  (∀ F' H' σ' v, Ext σ ρ F H σ' ρ' F' H' → RE X.K F' H' σ' ρ' → RsOk X.K H0 F' H' σ' ρ' v (.ow c) → D.rt v H') → t D σ H
section
variable {X : Cx} {W : WX} {st : Stmt} {rest : List Stmt} {ρ ρ1 : En} {c : Ct} {n : Str} {p pos : Pos}
theorem fjo_cons (h : SJ X W st ρ (.nx ρ1)) (g : FJO X W rest ρ1 c) : FJO X W (st :: rest) ρ c := by
  obtain ⟨t, h1, h2⟩ := h
  obtain ⟨ρ', u, g1, g2⟩ := g
  refine ⟨ρ', _, pss_cons h1 g1, fun H0 F H σ D R own tr q => h2 F H σ _ R fun F1 H1 σ1 x1 R1 => g2 H0 F1 H1 σ1 D R1 (fun i a z => ?_) (fun b z => tr b (x1.tr b z)) fun F' H' σ' v y R' z => q F' H' σ' v (x1.trans y) R' z⟩
  rcases x1.ow i a z with ⟨j, w⟩ | w
  · exact own j a w
  · exact tr a w
theorem le_drop {i : Nat} : Le (ρ.set i .un) ρ := by
  refine ⟨List.length_set .., fun j s h => ?_⟩
  rw [List.getElem?_set] at h
  split at h
  · split at h
    · cases h; exact .inl rfl
    · cases h
  · exact .inr h
theorem fjo_ret (i : Nat) (hd : ρ[i]? = some (.ow c) := by rfl) (hN : X.N[i]? = some n := by rfl) (hv : Vis X.env.scope n := by first | exact Or.inl rfl | exact Or.inr (Or.inl rfl) | exact Or.inr (Or.inr rfl)) (hdb : (n == ("__debug__" : Str)) = false := by decide)
    (hcd : (n == ("__classdict__" : Str)) = false := by decide) : FJO X W [.Return (some (.Name n p)) pos] ρ c := by
  refine ⟨ρ.set i .un, _, pss_one (ps_ret (pe_var hN hv hdb hcd)), fun H0 F H σ D R own tr q => ?_⟩
  obtain ⟨a, u, e1, _, e3, e4, e5⟩ := R.ob i _ c hd rfl
  have oi : OwAt σ ρ i a := ⟨⟨_, _, hd, rfl⟩, e1⟩
  refine ⟨_, e1, q F H σ (.ref a) (Ext.refl.le le_drop) (R.le le_drop) ⟨⟨a, u, rfl, e3, e4, e5, own i a oi⟩, fun c' a' h1 h2 j hj => ?_⟩⟩
  cases h1
  cases h2
  have hj2 := (le_drop (i := i) (ρ := ρ)).ow hj
  have e := R.inj j i a hj2 oi
  subst e
  obtain ⟨⟨s, c', h1, h2⟩, _⟩ := hj
  have hl := (List.getElem?_eq_some_iff.mp hd).1
  rw [List.getElem?_set_self hl] at h1
  cases h1
  cases h2
theorem FJ.ofO (g : FJO X W rest ρ c) (h0 : ρ.all (fun s => s.ct.isNone) = true := by rfl) : FJ X W rest ρ (.ok (.ow c)) := by
  obtain ⟨ρ', t, h1, h2⟩ := g
  refine .inl ⟨ρ', t, h1, fun F H σ D R q => h2 H F H σ D R (fun i a z => ?_) (fun b z => z) q⟩
  obtain ⟨⟨s, c', e1, e2⟩, _⟩ := z
  have := List.all_eq_true.mp h0 s (List.mem_of_getElem? e1)
  rw [e2] at this
  cases this
end
/-! ### the numbers shown for a range of votes -/
def overlaps (p : Int × Int) : Option (Int × Int) → Bool
  | none => false
  | some own => decide (own.1 ≤ p.2) && decide (p.1 ≤ own.2)
def numsIn (r : Ru) (t : Int) (p : Int × Int) : List Int := (rngI (shownM r p.1 t) (shownM r p.2 t)).filter fun x => overlaps p (rangeM r t x)
theorem shown_mono {r : Ru} {t v w : Int} (ht : 0 < t) (h : v ≤ w) : shownM r v t ≤ shownM r w t := by
  unfold shownM
  have hs := scl_pos r
  have : 2 * scl r * v ≤ 2 * scl r * w := Int.mul_le_mul_of_nonneg_left h (by omega)
  refine Int.ediv_le_ediv (by omega) ?_
  split <;> omega
theorem numsIn_mem {r : Ru} {t : Int} {p : Int × Int} (ht : 0 < t) (h0 : 0 ≤ p.1) (h1 : p.1 ≤ p.2) (h2 : p.2 ≤ t) {x : Int} : x ∈ numsIn r t p ↔ ∃ v, p.1 ≤ v ∧ v ≤ p.2 ∧ numberM r v t = x := by
  unfold numsIn
  rw [List.mem_filter, rngI_mem]
  constructor
  · rintro ⟨_, h⟩
    cases e : rangeM r t x with
    | none => rw [e] at h; cases h
    | some own =>
      rw [e] at h
      have h : (decide (own.1 ≤ p.2) && decide (p.1 ≤ own.2)) = true := h
      rw [Bool.and_eq_true, decide_eq_true_eq, decide_eq_true_eq] at h
      obtain ⟨e1, e2, e3, e4, e5⟩ := rangeM_some e
      exact ⟨max own.1 p.1, by omega, by omega, (range_iff ht (by omega) (by omega)).mp (by omega)⟩
  · rintro ⟨v, h3, h4, rfl⟩
    have hv := (range_iff (r := r) (n := numberM r v t) ht (by omega) (by omega)).mpr rfl
    refine ⟨⟨?_, ?_⟩, ?_⟩
    · rw [← shown_eq (v := v) ht]; exact shown_mono ht h3
    · rw [← shown_eq (v := v) ht]; exact shown_mono ht h4
    · have e : rangeM r t (numberM r v t) = some (lowM r t (numberM r v t), highM r t (numberM r v t)) := by
        unfold rangeM
        rw [if_pos (by omega)]
      rw [e]
      show (decide _ && decide _) = true
      rw [Bool.and_eq_true, decide_eq_true_eq, decide_eq_true_eq]
      dsimp only
      omega
end Pj

set_option Elab.async false
set_option linter.all false
set_option maxRecDepth 100000
/-! Qi: promises of certain.py, later.py, repairs.py. -/
namespace Pj
open PySem PySem.Spec PyProof.Rows L2
section
variable {r : Ru} {n : Nat} {ss : List Shot}
/-- a screenshot in the place of another -/
theorem GoodS.set (G : GoodS r n ss) {i : Nat} {s : Shot} (ht : 1 ≤ s.1 ∧ s.1 ≤ 1000000) (hl : s.2.length = n) (hx : ∀ x ∈ s.2, GoodN r x) : GoodS r n (ss.set i s) := by
  have key : ∀ u ∈ ss.set i s, u = s ∨ u ∈ ss := fun u hu => (List.mem_or_eq_of_mem_set hu).symm
  refine ⟨G.rule, G.wide, by rw [List.length_set]; exact G.cnt, fun u hu => ?_, fun u hu => ?_, fun u hu => ?_⟩
  · rcases key u hu with e | h
    · subst e; exact ht
    · exact G.tot u h
  · rcases key u hu with e | h
    · subst e; exact hl
    · exact G.len u h
  · rcases key u hu with e | h
    · subst e; exact hx
    · exact G.num u h
theorem GoodS.app (G : GoodS r n ss) {s : Shot} (h7 : ss.length ≤ 7) (ht : 1 ≤ s.1 ∧ s.1 ≤ 1000000) (hl : s.2.length = n) (hx : ∀ x ∈ s.2, GoodN r x) : GoodS r n (ss ++ [s]) := by
  have key : ∀ u ∈ ss ++ [s], u = s ∨ u ∈ ss := fun u hu => by
    rcases List.mem_append.mp hu with h | h
    · exact .inr h
    · exact .inl (List.mem_singleton.mp h)
  refine ⟨G.rule, G.wide, by rw [List.length_append]; show _ ∧ ss.length + 1 ≤ 8; have := G.cnt; exact ⟨by simp, by omega⟩, fun u hu => ?_, fun u hu => ?_, fun u hu => ?_⟩
  · rcases key u hu with e | h
    · subst e; exact ht
    · exact G.tot u h
  · rcases key u hu with e | h
    · subst e; exact hl
    · exact G.len u h
  · rcases key u hu with e | h
    · subst e; exact hx
    · exact G.num u h
def sAt (ss : List Shot) (i : Nat) : Shot := ss.getD i (0, [])
theorem GoodS.at (G : GoodS r n ss) {i : Nat} (hi : i < ss.length) : ss[i]? = some (sAt ss i) ∧ (1 ≤ (sAt ss i).1 ∧ (sAt ss i).1 ≤ 1000000) ∧ (sAt ss i).2.length = n ∧ ∀ x ∈ (sAt ss i).2, GoodN r x := by
  obtain ⟨h1, h2⟩ := getD_mem (l := ss) (d := (0, [])) hi
  exact ⟨h2, G.tot _ h1, G.len _ h1, G.num _ h1⟩
/-- without the number of option k at i -/
def noNum (ss : List Shot) (i k : Nat) : List Shot := ss.set i ((sAt ss i).1, (sAt ss i).2.set k none)
theorem GoodS.noNum (G : GoodS r n ss) {i : Nat} (k : Nat) (hi : i < ss.length) : GoodS r n (noNum ss i k) := by
  obtain ⟨_, h1, h2, h3⟩ := G.at hi
  refine G.set h1 (by show ((sAt ss i).2.set k none).length = n; rw [List.length_set, h2]) fun x hx => ?_
  rcases List.mem_or_eq_of_mem_set hx with h | h
  · exact h3 x h
  · subst h; exact fun i hi => by cases hi
def withTot (ss : List Shot) (i : Nat) (t : Int) : List Shot := ss.set i (t, (sAt ss i).2)
theorem GoodS.withTot (G : GoodS r n ss) {i : Nat} {t : Int} (hi : i < ss.length) (ht : 1 ≤ t ∧ t ≤ 1000000) : GoodS r n (withTot ss i t) := by
  obtain ⟨_, h1, h2, h3⟩ := G.at hi
  exact G.set ht h2 h3
def fitS (r : Ru) (ss : List Shot) : Bool := fitsM (tots ss) (rngs r ss)
/-- the numbers that occur for option k at i -/
def numsAt (r : Ru) (ss : List Shot) (i k : Nat) : List Int := if fitS r ss then numsIn r (sAt ss i).1 (smallM (tots ss) (rngs r ss) i k, largeM (tots ss) (rngs r ss) i k) else []
def posNums (r : Ru) (ss : List Shot) (i k : Nat) : List Int := numsAt r (noNum ss i k) i k
def posTots (r : Ru) (ss : List Shot) (i m : Nat) : List Int := (((List.range m).map (· + 1)).filter fun (t : Nat) => fitS r (withTot ss i t)).map fun (t : Nat) => (t : Int)
def nextS (n : Nat) (ss : List Shot) (t : Int) : List Shot := ss ++ [(t, List.replicate n none)]
theorem GoodS.next (G : GoodS r n ss) (h7 : ss.length ≤ 7) {t : Int} (ht : 1 ≤ t ∧ t ≤ 1000000) : GoodS r n (nextS n ss t) := by
  refine G.app h7 ht (List.length_replicate ..) fun x hx => ?_
  rw [List.eq_of_mem_replicate hx]
  exact fun i hi => by cases hi
def nextNums (r : Ru) (n : Nat) (ss : List Shot) (t : Int) (k : Nat) : List Int := numsAt r (nextS n ss t) ss.length k
theorem sAt_set {i : Nat} {s : Shot} (hi : i < ss.length) : sAt (ss.set i s) i = s := by
  unfold sAt
  rw [List.getD_eq_getElem?_getD, List.getElem?_set_self hi]
  rfl
/-- all votes of the histories give exactly these numbers -/
theorem numsAt_mem (G : GoodS r n ss) {i k : Nat} (hi : i < ss.length) (hk : k < n) {x : Int} : x ∈ numsAt r ss i k ↔ ∃ v ∈ (histsM r ss).getD i [], numberM r (v.getD k 0) (sAt ss i).1 = x := by
  obtain ⟨hs, ht, hl, _⟩ := G.at hi
  unfold numsAt fitS
  cases ft : fitsM (tots ss) (rngs r ss) with
  | false =>
    rw [if_neg Bool.false_ne_true]
    have e : (histsM r ss).getD i [] = [] := by
      apply Classical.byContradiction
      intro z
      have := (G.hist_ne hi).mp z
      rw [ft] at this
      cases this
    rw [e]
    simp
  | true =>
    rw [if_pos rfl]
    have c := G.can ft
    obtain ⟨p, hp, p0⟩ := c.at hi hk
    obtain ⟨⟨v0, v1, v2⟩, _⟩ := c.small hi hk
    obtain ⟨⟨w0, w1, w2⟩, _⟩ := c.large hi hk
    have sl := G.small_le ft hi hk
    have b0 : 0 ≤ smallM (tots ss) (rngs r ss) i k := by
      obtain ⟨q, hq, q1, q2⟩ := v1.inr i k hi hk
      rw [hp] at hq; cases hq
      omega
    have b1 : largeM (tots ss) (rngs r ss) i k ≤ (sAt ss i).1 := by
      obtain ⟨q, hq, q1, q2⟩ := w1.inr i k hi hk
      obtain ⟨s', x', f1, f2, _⟩ := G.nums hi hk
      rw [hs] at f1; cases f1
      rw [rAt_rngs hs f2] at hq
      have := rng_top hq
      omega
    rw [numsIn_mem (p := (smallM (tots ss) (rngs r ss) i k, largeM (tots ss) (rngs r ss) i k)) (show 0 < (sAt ss i).1 by omega) b0 sl b1]
    constructor
    · rintro ⟨v, h1, h2, h3⟩
      obtain ⟨vs, u, H, e1, e2⟩ := (hsl_vals G ft hi hk).mpr ⟨h1, h2⟩
      refine ⟨u, (G.hists.2 i hi u).mpr ⟨vs, H, e1⟩, ?_⟩
      rw [List.getD_eq_getElem?_getD, e2]
      exact h3
    · rintro ⟨u, hu, h3⟩
      have hc : u.getD k 0 ∈ colOf ((histsM r ss).getD i []) k := List.mem_map_of_mem hu
      have := (hsl_vals G ft hi hk).mp ((G.col_mem hi hk).mp hc)
      exact ⟨_, this.1, this.2, h3⟩
theorem numsAt_up (r : Ru) (ss : List Shot) (i k : Nat) : (numsAt r ss i k).Pairwise (· < ·) := by
  unfold numsAt
  split
  · exact (rngI_up _ _).filter _
  · exact List.Pairwise.nil
theorem numsAt_len (G : GoodS r n ss) {i k : Nat} (hi : i < ss.length) (hk : k < n) : (numsAt r ss i k).length ≤ 10001 ∧ ∀ x ∈ numsAt r ss i k, 0 ≤ x ∧ x ≤ scl r := by
  have ht := (G.at hi).2.1
  have b : ∀ x ∈ numsAt r ss i k, 0 ≤ x ∧ x ≤ scl r := fun x hx => by
    obtain ⟨v, hv, rfl⟩ := (numsAt_mem G hi hk).mp hx
    obtain ⟨s, hs, V, l⟩ := G.hist_row hi hv
    rw [(G.at hi).1] at hs
    cases hs
    have hm := (getD_mem (l := v) (d := 0) (show k < v.length by omega)).1
    exact number_bounds (by omega) (V.pos _ hm) (V.top _ hm)
  have := pair_len (numsAt_up r ss i k) b
  have := scl_pos r
  exact ⟨by omega, b⟩
/-- .. as the laws gather them -/
theorem numsAt_rise (G : GoodS r n ss) {i k : Nat} (hi : i < ss.length) (hk : k < n) : riseI (((histsM r ss).getD i []).map fun v => numberM r (v.getD k 0) (sAt ss i).1) = numsAt r ss i k :=
  rises_one (riseI_ok _) ⟨numsAt_up r ss i k, fun x => by rw [numsAt_mem G hi hk, List.mem_map]⟩
end
/-! ### promises -/
def M_require_total (ds : List PD) (o : PO) : Prop := ∃ v, ds = [v] ∧ o = if isI v 1 1000000 then .ok (.va .none) else .ex "InvalidTotal" none
def M_require_few (ds : List PD) (o : PO) : Prop := ∃ v, ds = [v] ∧ o = if isI v 1 500 then .ok (.va .none) else .ex "InvalidCount" none
def M_require_option (ds : List PD) (o : PO) : Prop := ∃ (r : Ru) (n : Nat) (ss : List Shot) (v : PD), GoodS r n ss ∧ ds = [eShots ss, v] ∧ o = if isI v 0 (n - 1) then .ok (.va .none) else .ex "InvalidOption" none
def M_replaced (ds : List PD) (o : PO) : Prop := ∃ (r : Ru) (n : Nat) (ss : List Shot) (i : Nat) (s : Shot), GoodS r n ss ∧ i < ss.length ∧ ds = [eShots ss, .int i, eShot s] ∧ o = .ok (.va (eShots (ss.set i s)))
def M_numbers_in (ds : List PD) (o : PO) : Prop := ∃ (r : Ru) (t : Int) (p : Int × Int), r.ok ∧ (0 < t ∧ t ≤ 1000000) ∧ 0 ≤ p.1 ∧ p.1 ≤ p.2 ∧ p.2 ≤ t ∧ ds = [eRu r, .int t, ePr p] ∧ o = .ok (.ow (.lst ((numsIn r t p).map .int)))
/-- the ways in which the first two arguments are wrong, or good shots -/
def Args2 (d v : PD) (o : PO) (P : ∀ (r : Ru) (n : Nat) (ss : List Shot), GoodS r n ss → Prop) : Prop :=
  (isRule d = false ∧ o = .ex "InvalidRule" none) ∨ (∃ r, Ru.ok r ∧ d = eRu r ∧ isShots r v = false ∧ o = .ex "InvalidShots" none) ∨ ∃ (r : Ru) (n : Nat) (ss : List Shot) (G : GoodS r n ss), d = eRu r ∧ v = eShots ss ∧ P r n ss G
def M_possible_numbers (ds : List PD) (o : PO) : Prop := ∃ d v i k, ds = [d, v, i, k] ∧ Args2 d v o fun r n ss _ =>
  (isI i 0 (ss.length - 1) = false ∧ o = .ex "InvalidIndex" none) ∨ (isI i 0 (ss.length - 1) = true ∧ isI k 0 (n - 1) = false ∧ o = .ex "InvalidOption" none) ∨
  ∃ i' k' : Nat, i' < ss.length ∧ k' < n ∧ i = .int i' ∧ k = .int k' ∧ o = .ok (.ow (.lst ((posNums r ss i' k').map .int)))
def M_possible_totals (ds : List PD) (o : PO) : Prop := ∃ d v i k, ds = [d, v, i, k] ∧ Args2 d v o fun r n ss _ =>
  (isI i 0 (ss.length - 1) = false ∧ o = .ex "InvalidIndex" none) ∨ (isI i 0 (ss.length - 1) = true ∧ isI k 1 500 = false ∧ o = .ex "InvalidCount" none) ∨
  ∃ i' m : Nat, i' < ss.length ∧ (1 ≤ m ∧ m ≤ 500) ∧ i = .int i' ∧ k = .int m ∧ o = .ok (.ow (.lst ((posTots r ss i' m).map .int)))
def M_next_numbers (ds : List PD) (o : PO) : Prop := ∃ d v t k, ds = [d, v, t, k] ∧ Args2 d v o fun r n ss _ =>
  (isI t 1 1000000 = false ∧ o = .ex "InvalidTotal" none) ∨ (isI t 1 1000000 = true ∧ isI k 0 (n - 1) = false ∧ o = .ex "InvalidOption" none) ∨
  ∃ (t' : Int) (k' : Nat), ss.length ≤ 7 ∧ (1 ≤ t' ∧ t' ≤ 1000000) ∧ k' < n ∧ t = .int t' ∧ k = .int k' ∧ o = .ok (.ow (.lst ((nextNums r n ss t' k').map .int)))
section
variable {r : Ru} {n : Nat} {ss : List Shot} {v d : PD}
theorem m_require_total (h : isI v 1 1000000 = true) : M_require_total [v] (.ok (.va .none)) := ⟨v, rfl, by rw [h]; rfl⟩
theorem m_require_totalX (h : isI v 1 1000000 = false) : M_require_total [v] (.ex "InvalidTotal" none) := ⟨v, rfl, by rw [h]; rfl⟩
theorem m_require_few (h : isI v 1 500 = true) : M_require_few [v] (.ok (.va .none)) := ⟨v, rfl, by rw [h]; rfl⟩
theorem m_require_fewX (h : isI v 1 500 = false) : M_require_few [v] (.ex "InvalidCount" none) := ⟨v, rfl, by rw [h]; rfl⟩
theorem m_require_option (G : GoodS r n ss) (h : isI v 0 (n - 1) = true) : M_require_option [eShots ss, v] (.ok (.va .none)) := ⟨r, n, ss, v, G, rfl, by rw [h]; rfl⟩
theorem m_require_optionX (G : GoodS r n ss) (h : isI v 0 (n - 1) = false) : M_require_option [eShots ss, v] (.ex "InvalidOption" none) := ⟨r, n, ss, v, G, rfl, by rw [h]; rfl⟩
theorem m_replaced (G : GoodS r n ss) {i : Nat} {s : Shot} (hi : i < ss.length) : M_replaced [eShots ss, .int i, eShot s] (.ok (.va (eShots (ss.set i s)))) := ⟨r, n, ss, i, s, G, hi, rfl, rfl⟩
theorem m_numbers_in {t : Int} {p : Int × Int} (hr : r.ok) (ht : 0 < t ∧ t ≤ 1000000) (h0 : 0 ≤ p.1) (h1 : p.1 ≤ p.2) (h2 : p.2 ≤ t) : M_numbers_in [eRu r, .int t, ePr p] (.ok (.ow (.lst ((numsIn r t p).map .int)))) := ⟨r, t, p, hr, ht, h0, h1, h2, rfl, rfl⟩
theorem isI_nat {i m : Nat} (h : i < m) : isI (.int i) 0 (m - 1) = true := isI_e.mpr ⟨by omega, by omega⟩
theorem m_possible_numbers (G : GoodS r n ss) {i k : Nat} (hi : i < ss.length) (hk : k < n) : M_possible_numbers [eRu r, eShots ss, .int i, .int k] (.ok (.ow (.lst ((posNums r ss i k).map .int)))) := ⟨_, _, _, _, rfl, .inr (.inr ⟨r, n, ss, G, rfl, rfl, .inr (.inr ⟨i, k, hi, hk, rfl, rfl, rfl⟩)⟩)⟩
theorem m_possible_totals (G : GoodS r n ss) {i m : Nat} (hi : i < ss.length) (hm : 1 ≤ m ∧ m ≤ 500) : M_possible_totals [eRu r, eShots ss, .int i, .int m] (.ok (.ow (.lst ((posTots r ss i m).map .int)))) := ⟨_, _, _, _, rfl, .inr (.inr ⟨r, n, ss, G, rfl, rfl, .inr (.inr ⟨i, m, hi, hm, rfl, rfl, rfl⟩)⟩)⟩
theorem m_next_numbers (G : GoodS r n ss) {t : Int} {k : Nat} (h7 : ss.length ≤ 7) (ht : 1 ≤ t ∧ t ≤ 1000000) (hk : k < n) : M_next_numbers [eRu r, eShots ss, .int t, .int k] (.ok (.ow (.lst ((nextNums r n ss t k).map .int)))) := ⟨_, _, _, _, rfl, .inr (.inr ⟨r, n, ss, G, rfl, rfl, .inr (.inr ⟨t, k, h7, ht, hk, rfl, rfl, rfl⟩)⟩)⟩
/-- the ranges of option k at i -/
theorem GoodS.bnd (G : GoodS r n ss) (ft : fitsM (tots ss) (rngs r ss) = true) {i k : Nat} (hi : i < ss.length) (hk : k < n) : 0 ≤ smallM (tots ss) (rngs r ss) i k ∧ smallM (tots ss) (rngs r ss) i k ≤ largeM (tots ss) (rngs r ss) i k ∧ largeM (tots ss) (rngs r ss) i k ≤ (sAt ss i).1 := by
  have c := G.can ft
  obtain ⟨hs, ht, hl, _⟩ := G.at hi
  obtain ⟨p, hp, p0⟩ := c.at hi hk
  obtain ⟨⟨v0, v1, v2⟩, _⟩ := c.small hi hk
  obtain ⟨⟨w0, w1, w2⟩, _⟩ := c.large hi hk
  refine ⟨?_, G.small_le ft hi hk, ?_⟩
  · obtain ⟨q, hq, q1, q2⟩ := v1.inr i k hi hk
    rw [hp] at hq; cases hq
    omega
  · obtain ⟨q, hq, q1, q2⟩ := w1.inr i k hi hk
    obtain ⟨s', x', f1, f2, _⟩ := G.nums hi hk
    rw [hs] at f1; cases f1
    rw [rAt_rngs hs f2] at hq
    have := rng_top hq
    omega
end
theorem at_range {f : Nat → PD} {m i : Nat} (h : i < m) : atI ((List.range m).map f) (i : Int) = some (f i) := atI_nat (by rw [List.getElem?_map, List.getElem?_range h]; rfl)
theorem cut_set {α : Type} {l : List α} {i : Nat} {a : α} {f : α → PD} (h : i < l.length) : cutL (l.map f) none (some (i : Int)) ++ [f a] ++ cutL (l.map f) (some ((i : Int) + 1)) none = (l.set i a).map f := by
  rw [cut_to, cut_from1, List.map_set, set_cut (by rw [List.length_map]; exact h)]
end Pj

set_option Elab.async false
set_option linter.all false
set_option maxRecDepth 100000
/-! Qj: an own list read in a test, own again behind it. -/
namespace Pj
open PySem PySem.Spec PyProof.Rows L2
def flatS (s : Sl) : Bool := match s.ct with
  | none => true
  | some (.lst ds) => ds.all flatD
  | some (.dk _) => false
theorem dpAll_flat {K : PySem.W.Frag} {F F' : Hp} : ∀ {vs : List V} {ds : List PD}, DpAll K F vs ds → ds.all flatD = true → DpAll K F' vs ds
  | _, _, .nil, _ => .nil
  | _, _, .cons h t, f => by
    rw [List.all_cons, Bool.and_eq_true] at f
    refine .cons ?_ (dpAll_flat t f.2)
    have f1 := f.1
    cases h with
    | non => exact .non
    | bl b => exact .bl b
    | int i => exact .int i
    | str s => exact .str s
    | lst _ _ => cases f1
    | tup _ _ => cases f1
section
variable {X : Cx} {W : WX} {c : Expr} {ρ : En} {ds : List PD} {b : Bool}
theorem TJ.borrow (i : Nat) (h : TJ X W c (ρ.set i (.va (.list ds))) (ρ.set i (.va (.list ds))) b) (hd : ρ[i]? = some (.ow (.lst ds)) := by rfl) (hf : (ρ.set i .un).all flatS = true := by rfl) : TJ X W c ρ ρ b := by
  obtain ⟨t, h1, h2⟩ := h
  refine ⟨t, h1, fun F H σ Q R q => ?_⟩
  obtain ⟨a, vs, e1, e2, e3, e4, R0, x0, _⟩ := re_frz R hd
  have il := (List.getElem?_eq_some_iff.mp hd).1
  refine h2 _ H σ Q R0 fun F' H' x R' => ?_
  have oi : OwAt σ ρ i a := ⟨⟨_, _, hd, rfl⟩, e1⟩
  have fa : (upd F a (.lst vs)) a = some (.lst vs) := upd_same
  have ne : ∀ b o, F b = some o → b ≠ a := fun b o z e => by rw [e, e3] at z; cases z
  let G : Hp := fun b => if b = a then none else F' b
  have sFG : Same F G := fun b o z => by
    have n := ne b o z
    show (if b = a then none else F' b) = some o
    rw [if_neg n]
    exact x.ff b o (by rw [upd_ne n]; exact z)
  have low : ∀ j b, OwAt σ (ρ.set i (.va (.list ds))) j b → OwAt σ ρ j b := fun j b ⟨⟨s, c, z1, z2⟩, z3⟩ => by
    rw [List.getElem?_set] at z1
    split at z1
    · first
        | (cases z1; cases z2; done)
        | (split at z1
           · cases z1; cases z2
           · cases z1)
    · exact ⟨⟨s, c, z1, z2⟩, z3⟩
  have H'a : H' a = some (.lst vs) := R'.fh a _ (x.ff a _ fa)
  refine q G H' ⟨sFG, fun b o z n => x.hh b o z fun j w => n j (low j b w), fun b o z1 z2 n => ?_, fun j b z => .inl ⟨j, z⟩, fun b z => x.tr b z⟩ ⟨R.len, fun b o z => ?_, fun j d z => ?_, fun j s c z1 z2 => ?_, R.inj⟩
  · have nb : b ≠ a := fun e => n i (by rw [e]; exact oi)
    show (if b = a then none else F' b) = none
    rw [if_neg nb]
    exact x.nf b o (by rw [upd_ne nb]; exact z1) z2 fun j w => n j (low j b w)
  · have z : (if b = a then none else F' b) = some o := z
    split at z
    · cases z
    · exact R'.fh b o z
  · obtain ⟨v, w1, w2⟩ := R.va j d z
    exact ⟨v, w1, Dp.mono w2 sFG⟩
  · by_cases ej : j = i
    · subst ej
      rw [hd] at z1
      cases z1
      cases z2
      obtain ⟨a', u, w1, w2, w3, w4, w5⟩ := R.ob j _ _ hd rfl
      rw [e1] at w1
      cases w1
      rw [e2] at w4
      cases w4
      exact ⟨a, _, e1, trivial, if_pos rfl, H'a, CtOk.mono w5 sFG⟩
    · have z1' : (ρ.set i (.va (.list ds)))[j]? = some s := by rw [List.getElem?_set_ne (fun e => ej e.symm)]; exact z1
      obtain ⟨a', u, w1, w2, w3, w4, w5⟩ := R'.ob j s c z1' z2
      have fl : flatS s = true := List.all_eq_true.mp hf s (List.mem_of_getElem? (i := j) (by rw [List.getElem?_set_ne (fun e => ej e.symm)]; exact z1))
      unfold flatS at fl
      rw [z2] at fl
      refine ⟨a', u, w1, w2, ?_, w4, ?_⟩
      · show (if a' = a then none else F' a') = none
        split
        · rfl
        · exact w3
      · cases c with
        | dk _ => cases fl
        | lst es =>
          obtain ⟨ws, rfl, w6⟩ := ctOk_lst w5
          exact dpAll_flat w6 fl
end
section
variable {r : Ru} {n : Nat} {ss : List Shot}
theorem posTots_mem {i m : Nat} {x : Int} : x ∈ posTots r ss i m ↔ ∃ t : Nat, 1 ≤ t ∧ t ≤ m ∧ fitS r (withTot ss i t) = true ∧ x = t := by
  unfold posTots
  rw [List.mem_map]
  constructor
  · rintro ⟨t, ht, rfl⟩
    obtain ⟨h1, h2⟩ := List.mem_filter.mp ht
    obtain ⟨k, hk, rfl⟩ := List.mem_map.mp h1
    rw [List.mem_range] at hk
    exact ⟨k + 1, by omega, by omega, h2, rfl⟩
  · rintro ⟨t, h1, h2, h3, rfl⟩
    exact ⟨t, List.mem_filter.mpr ⟨List.mem_map.mpr ⟨t - 1, by rw [List.mem_range]; omega, by omega⟩, h3⟩, rfl⟩
theorem posTots_up {i m : Nat} : (posTots r ss i m).Pairwise (· < ·) := by
  unfold posTots
  rw [List.pairwise_map]
  refine List.Pairwise.imp (R := fun a b : Nat => a < b) (fun h => by omega) (List.Pairwise.filter _ ?_)
  rw [List.pairwise_map]
  exact List.pairwise_lt_range.imp fun h => by omega
theorem posTots_len {i m : Nat} : (posTots r ss i m).length ≤ m := by
  unfold posTots
  rw [List.length_map]
  refine Nat.le_trans (List.length_filter_le _ _) ?_
  rw [List.length_map, List.length_range]
  exact Nat.le_refl _
theorem withTot_with {i : Nat} {a b : Int} (hi : i < ss.length) : withTot (withTot ss i a) i b = withTot ss i b := by
  unfold withTot
  rw [sAt_set hi, List.set_set]
theorem withTot_self {i : Nat} (hi : i < ss.length) : withTot ss i (sAt ss i).1 = ss := by
  unfold withTot sAt
  apply List.ext_getElem?
  intro j
  rw [List.getElem?_set]
  by_cases e : i = j
  · subst e
    rw [if_pos rfl, if_pos hi, (getD_mem (l := ss) (d := (0, [])) hi).2]
  · rw [if_neg e]
theorem withTot_len {i : Nat} {a : Int} : (withTot ss i a).length = ss.length := by unfold withTot; rw [List.length_set]
theorem any_ints (l : List Int) (x : Int) : ((l.map PyData.int).any fun y => PyData.eqv y (.int x)) = decide (x ∈ l) := by
  rw [List.any_map, Bool.eq_iff_iff, List.any_eq_true, decide_eq_true_eq]
  constructor
  · rintro ⟨y, h1, h2⟩
    have h2 : PyData.eqv (.int y) (.int x) = true := h2
    rw [eqv_int, decide_eq_true_eq] at h2
    exact h2 ▸ h1
  · intro h
    exact ⟨x, h, by show PyData.eqv (.int x) (.int x) = true; rw [eqv_int, decide_eq_true_eq]⟩
theorem flat_ints (l : List Int) : (l.map PyData.int).all flatD = true := by
  rw [List.all_map, List.all_eq_true]
  exact fun _ _ => rfl
theorem rise_self {l : List Int} (h : l.Pairwise (· < ·)) : riseI l = l := rises_one (riseI_ok l) ⟨h, fun _ => Iff.rfl⟩
theorem eqv_ints (l : List Int) : PyData.eqv (eLst l) (eLst l) = true := eqv_self (noB_list fun _ _ => rfl)
theorem sh_ints (l : List Int) : SeqAt.shaped (eLst l) = true := (shLm (k := 1) fun _ _ => shI).shaped
/-- totals never fall in a history -/
theorem HsL.tot_up (G : GoodS r n ss) {vs : List (List Int)} (H : HsL r ss vs) {i : Nat} (hi : i + 1 < ss.length) : (sAt ss i).1 ≤ (sAt ss (i + 1)).1 := by
  have h1 := (G.at (i := i) (by omega)).1
  have h2 := (G.at hi).1
  have v1 := (getD_mem (l := vs) (d := []) (show i < vs.length by rw [H.len]; omega)).2
  have v2 := (getD_mem (l := vs) (d := []) (show i + 1 < vs.length by rw [H.len]; omega)).2
  have V1 := H.row i _ _ h1 v1
  have V2 := H.row (i + 1) _ _ h2 v2
  rw [← V1.sum, ← V2.sum]
  exact sum_le_leAll (by rw [V1.len, V2.len, (G.at (i := i) (by omega)).2.2.1, (G.at hi).2.2.1]) (H.up i _ _ v1 v2)
theorem fitS_hsl (G : GoodS r n ss) : fitS r ss = true ↔ ∃ vs, HsL r ss vs := fits_hsl G
theorem GoodS.hist_anyS (G : GoodS r n ss) : (histsM r ss).any List.isEmpty = !fitS r ss := G.hist_any
end
/-- 0, 0 or 1 decimals and a half -/
theorem rule01_ex {b : Bg} (h : b.ok) : ∃ (r : Ru) (b1 b2 : Bg) (d1 d2 : PD), r.ok ∧ b2.ok ∧ M_law_of (eBg b) [.list [.int 0, .int 0, .int 1]] (eBg b1) (.ok (.va d1)) ∧ M_law_of (eBg b1) [.list [.str "up", .str "down"]] (eBg b2) (.ok (.va d2)) ∧ PyData.tuple [d1, d2] = eRu r := by
  obtain ⟨i, d, b1, k1, e1, T1⟩ := of_ex (.list [.int 0, .int 0, .int 1]) h
  obtain ⟨u, b2, k2, T2⟩ := half_ex k1
  obtain ⟨j, hj, rfl⟩ : ∃ j : Int, (0 ≤ j ∧ j < 3) ∧ d = .int j := by
    match i, e1 with
    | 0, e => cases e; exact ⟨0, by decide, rfl⟩
    | 1, e => cases e; exact ⟨0, by decide, rfl⟩
    | 2, e => cases e; exact ⟨1, by decide, rfl⟩
  obtain ⟨r, hr, er⟩ := rule_of (u := u) hj.1 hj.2 (Int.le_refl 3)
  exact ⟨r, b1, b2, _, _, hr, k2, T1, T2, er⟩
/-- one of two, of three numbers -/
theorem of2_ex {b : Bg} (h : b.ok) (x y : Int) {P : Int → Prop} (hx : P x) (hy : P y) : ∃ (q : Int) (b' : Bg), b'.ok ∧ P q ∧ M_law_of (eBg b) [.list [.int x, .int y]] (eBg b') (.ok (.va (.int q))) := by
  obtain ⟨i, d, b1, k1, e1, T1⟩ := of_ex (.list [.int x, .int y]) h
  match i, e1 with
  | 0, e => cases e; exact ⟨x, b1, k1, hx, T1⟩
  | 1, e => cases e; exact ⟨y, b1, k1, hy, T1⟩
theorem of3_ex {b : Bg} (h : b.ok) (x y z : Int) {P : Int → Prop} (hx : P x) (hy : P y) (hz : P z) : ∃ (q : Int) (b' : Bg), b'.ok ∧ P q ∧ M_law_of (eBg b) [.list [.int x, .int y, .int z]] (eBg b') (.ok (.va (.int q))) := by
  obtain ⟨i, d, b1, k1, e1, T1⟩ := of_ex (.list [.int x, .int y, .int z]) h
  match i, e1 with
  | 0, e => cases e; exact ⟨x, b1, k1, hx, T1⟩
  | 1, e => cases e; exact ⟨y, b1, k1, hy, T1⟩
  | 2, e => cases e; exact ⟨z, b1, k1, hz, T1⟩
/-- a drawn poll as good shots with its history -/
theorem pollG_ex {r : Ru} {n : Nat} (m w : Int) {b : Bg} (hb : b.ok) (hr : r.ok) (hn : 2 ≤ n ∧ n ≤ 6) (hm : 1 ≤ m ∧ m ≤ 8 := by decide) (hw : 1 ≤ w ∧ w ≤ 50000 ∧ (m ≤ 6 ∨ w ≤ 40000) := by decide) :
    ∃ (rows : List (List Int)) (ss : List Shot) (b' : Bg), b'.ok ∧ GoodS r n ss ∧ HsL r ss rows ∧ (ss.length : Int) ≤ m ∧ (∀ v ∈ rows, isVotesI v) ∧ (∀ s ∈ ss, s.1 ≤ n * (w + (m - 1) * (w / 3 + 2))) ∧ (∀ s ∈ ss, ∀ x ∈ s.2, x ≠ none) ∧
      M_law_poll (eBg b) [eRu r, .int n, .int m, .int w] (eBg b') (.ok (.va (.tuple [.list (rows.map eInts), eShots ss]))) := by
  obtain ⟨rows, shots, b', k, R, T⟩ := poll_ex (r := r) (n := n) m w hb hr hn hm hw
  rw [eShIs_eq] at T
  refine ⟨rows, shots.map shotOf, b', k, R.good hr hn hm.2, R.hsl, ?_, fun v hv => (R.rows v hv).2, R.tots (Int.le_refl _), fun s hs x hx => ?_, T⟩
  · have e := R.shots
    rw [List.length_map, e, List.length_map]
    exact R.cnt.2
  · obtain ⟨p, _, rfl⟩ := List.mem_map.mp hs
    obtain ⟨y, _, rfl⟩ := List.mem_map.mp hx
    exact fun z => by cases z
theorem cropG_ex {r : Ru} {n : Nat} {b : Bg} {ss : List Shot} (w : Int) (h : b.ok) (G : GoodS r n ss) (hw : 0 < w ∧ w ≤ 1000 := by decide) : ∃ ss' b', b'.ok ∧ Crops ss ss' ∧ GoodS r n ss' ∧ M_law_cropped (eBg b) [eShots ss, .int w] (eBg b') (.ok (.va (eShots ss'))) := by
  obtain ⟨s1, b6, k6, cr, T6⟩ := crop_ex (ss := ss) w h (by have := G.cnt.2; omega) (fun s hs => by have := G.len s hs; have := G.wide; omega) hw
  exact ⟨s1, b6, k6, cr, cr.good G, T6⟩
theorem spoilG_ex {r : Ru} {n : Nat} {b : Bg} {ss : List Shot} (h : b.ok) (G : GoodS r n ss) {B : Int} (hB : ∀ s ∈ ss, s.1 ≤ B) (h6 : B < 1000000) : ∃ ss' b', b'.ok ∧ Spoils r ss ss' ∧ GoodS r n ss' ∧ (∀ s ∈ ss', s.1 ≤ B + 1) ∧ M_law_spoiled (eBg b) [eRu r, eShots ss] (eBg b') (.ok (.va (eShots ss'))) := by
  obtain ⟨s2, b7, k7, sp, T7⟩ := spoil_ex (ss := ss) h G.rule (by have := G.cnt.2; omega) (fun s hs => by have := G.len s hs; have := G.wide; omega)
  exact ⟨s2, b7, k7, sp, sp.good G fun s hs => by have := hB s hs; omega, sp.tots fun s hs => ⟨(G.tot s hs).1, hB s hs⟩, T7⟩
theorem eOI_inj : ∀ {a b : Num}, eOI a = eOI b → a = b
  | none, none, _ => rfl
  | some _, some _, h => by injection h with h; rw [h]
  | none, some _, h => by cases h
  | some _, none, h => by cases h
theorem map_inj {α β : Type} {f : α → β} (hf : ∀ a b, f a = f b → a = b) : ∀ {l m : List α}, l.map f = m.map f → l = m
  | [], [], _ => rfl
  | [], _ :: _, h => by cases h
  | _ :: _, [], h => by cases h
  | a :: l, b :: m, h => by
    rw [List.map_cons, List.map_cons] at h
    injection h with h1 h2
    rw [hf a b h1, map_inj hf h2]
theorem eShot_inj {a b : Shot} (h : eShot a = eShot b) : a = b := by
  obtain ⟨t, x⟩ := a
  obtain ⟨u, y⟩ := b
  unfold eShot eNums at h
  injection h with h
  injection h with h1 h2
  injection h1 with h1
  injection h2 with h2
  injection h2 with h2
  have h1 : t = u := h1
  have h2 : x.map eOI = y.map eOI := h2
  rw [h1, map_inj (fun _ _ => eOI_inj) h2]
theorem eShots_inj {a b : List Shot} (h : eShots a = eShots b) : a = b := by
  unfold eShots at h
  injection h with h
  exact map_inj (fun _ _ => eShot_inj) h
/-- given shots, by running the check -/
theorem good_by {r : Ru} {n : Nat} {ss : List Shot} (hr : r.ok) (h : isShots r (eShots ss) = true) (hn : (ss.headD (0, [])).2.length = n) : GoodS r n ss := by
  obtain ⟨m, s2, G, e⟩ := isShots_elim hr h
  have e2 := eShots_inj e
  subst e2
  have c := G.cnt
  match ss, c, G, hn with
  | s :: ss, _, G, hn =>
    have := G.len s List.mem_cons_self
    have : m = n := by rw [← this, ← hn]; rfl
    subst this
    exact G
end Pj

set_option Elab.async false
set_option linter.all false
set_option maxRecDepth 100000
/-! Qk: max and min of lists of tuples. -/
namespace Pj
open PySem PySem.Spec PyProof.Rows L2
section
variable {P : Program} {w : World} {A : Around} {E : Value → Shared → Prop} {s : Shared} {Z : Result → Shared → Prop} {J : Addr} {fp wr : List Addr} {n : Nat} {Pv : Nat → Value → Prop} {Sv : Nat → Heap → Prop}
/-- the loop of max: the order may lean on what the heap keeps -/
theorem mxLoop (W : Walks P w A.in1 J fp wr n Pv Sv) (bt : Nat → Nat → Bool) (Kp : Heap → Prop) (B : Addr) (fresh : B ∉ fp) (keep : ∀ h h', Kp h → (∀ b o, b ∉ wr → b ≠ B → h.get? b = some o → h'.get? b = some o) → Kp h')
    (cmp : ∀ i j x y (z : Shared) (Q : Value → Shared → Prop) (E : Value → Shared → Prop), Kp z.heap → Pv i x → Pv j y → Q (.bool (bt i j)) z → wpAny (model P w) A.in1 (richCompare .Gt x y) Q E z) :
    ∀ (k j : Nat) (z : Shared) (best : Value) (c : Nat), n - (j + 1) = k → j + 1 ≤ n → Sv (j + 1) z.heap → Kp z.heap → Pv (argBest bt j) best →
      z.heap.get? B = some { cls := .type "list", dict := none, data := .seq #[best, best] c, slots := #[] } →
      (∀ x h' tk, Pv (argBest bt (n - 1)) x → (∀ b o, b ∉ wr → b ≠ B → z.heap.get? b = some o → h'.get? b = some o) → Z (.ok (.ret x)) { z with heap := h', toks := tk }) →
      codeAny (model P w) A (.builtin "max.loop" ⟨[.ref J, .none, .ref B], []⟩) Z z := by
  have nw : B ∉ wr := fun h => fresh (W.sub _ h)
  have nm : (toString "max" ++ toString ".loop" : String) = "max.loop" := by decide
  intro k
  induction k with
  | zero =>
    intro j z best c hk hj hst kp hP hB hZ
    have jn : j + 1 = n := by omega
    refine codeAny_builtin PySem.F.entry_max_loop ?_
    rw [Around.under_plainId PySem.F.plain_max_loop _]
    refine (show wpAny _ A.in1 (seqItems? (.ref B) >>= _) _ _ z from wpAny_bind (wpAny_seqItems hB rfl ?_))
    refine (show wpAny _ A.in1 (tryCatch (pyNext (.ref J)) _ >>= _) _ _ z from wpAny_bind (wpAny_tryCatch (W.done z _ _ (jn ▸ hst) fun h' tk kk => ?_)))
    have hB' := kk B _ nw hB
    refine (show wpAny _ A.in1 (updateSeq B (fun _ => #[]) >>= _) _ _ _ from wpAny_bind (wpAny_updateSeq hB' rfl (wpAny_bind (wpAny_letGo (wpAny_pure ?_)))))
    exact hZ best _ tk (jn ▸ hP) fun b o b1 b2 e => (Heap.get?_update_other _ _ (Ne.symm b2)).trans (kk b o b1 e)
  | succ k ih =>
    intro j z best c hk hj hst kp hP hB hZ
    have jl : j + 1 < n := by omega
    refine codeAny_builtin PySem.F.entry_max_loop ?_
    rw [Around.under_plainId PySem.F.plain_max_loop _]
    refine (show wpAny _ A.in1 (seqItems? (.ref B) >>= _) _ _ z from wpAny_bind (wpAny_seqItems hB rfl ?_))
    refine (show wpAny _ A.in1 (tryCatch (pyNext (.ref J)) _ >>= _) _ _ z from wpAny_bind (wpAny_tryCatch (W.item (j + 1) z _ _ jl hst fun x h' tk hx hst' kk => ?_)))
    have hB' := kk B _ nw hB
    have kp' : Kp h' := keep _ _ kp fun b o b1 _ e => kk b o b1 e
    refine (show wpAny _ A.in1 (tryCatch (holding [x, x] (richCompare .Gt x best >>= _)) _ >>= _) _ _ _ from wpAny_bind (wpAny_tryCatch (wpAny_holding (wpAny_bind (cmp (j + 1) (argBest bt j) x best _ _ _ kp' hx hP ?_)))))
    refine wpAny_bind (wpAny_holding (wpAny_truthy_bool (wpAny_bind (wpAny_letGo (wpAny_pure ?_)))))
    cases hb : bt (j + 1) (argBest bt j) with
    | true =>
      rw [if_pos rfl]
      refine wpAny_bind (wpAny_updateSeq hB' rfl (wpAny_bind (wpAny_letGo ?_)))
      rw [nm]
      have up : ∀ (f : Obj → Obj) b o, b ≠ B → h'.get? b = some o → (h'.update B f).get? b = some o := fun f b o b2 e => (Heap.get?_update_other _ f (Ne.symm b2)).trans e
      refine wpAny_pure ⟨plainId_quiet PySem.F.plain_max_loop _, ih (j + 1) _ x _ (by omega) jl (W.frame _ _ _ hst' fun b hbf o e => up _ b o (fun q => fresh (q ▸ hbf)) e) (keep _ _ kp' fun b o _ b2 e => up _ b o b2 e) (by unfold argBest; rw [hb, if_pos rfl]; exact hx) (Heap.get?_update_self _ hB' rfl) fun y h'' tk'' hy kk'' => ?_⟩
      exact hZ y h'' tk'' hy fun b o b1 b2 e => kk'' b o b1 b2 (up _ b o b2 (kk b o b1 e))
    | false =>
      rw [if_neg Bool.false_ne_true]
      refine wpAny_bind (wpAny_letGo ?_)
      rw [nm]
      refine wpAny_pure ⟨plainId_quiet PySem.F.plain_max_loop _, ih (j + 1) _ best c (by omega) jl hst' kp' (by unfold argBest; rw [hb, if_neg Bool.false_ne_true]; exact hP) hB' fun y h'' tk'' hy kk'' => ?_⟩
      exact hZ y h'' tk'' hy fun b o b1 b2 e => kk'' b o b1 b2 (kk b o b1 e)
theorem mxFirst (W : Walks P w A.in1 J fp wr n Pv Sv) (bt : Nat → Nat → Bool) (Kp : Heap → Prop) (B : Addr) (fresh : B ∉ fp) (keep : ∀ h h', Kp h → (∀ b o, b ∉ wr → b ≠ B → h.get? b = some o → h'.get? b = some o) → Kp h')
    (cmp : ∀ i j x y (z : Shared) (Q : Value → Shared → Prop) (E : Value → Shared → Prop), Kp z.heap → Pv i x → Pv j y → Q (.bool (bt i j)) z → wpAny (model P w) A.in1 (richCompare .Gt x y) Q E z)
    (hn : 0 < n) {z : Shared} {c : Nat} (hst : Sv 0 z.heap) (kp : Kp z.heap) (hB : z.heap.get? B = some { cls := .type "list", dict := none, data := .seq #[] c, slots := #[] })
    (hZ : ∀ x h' tk, Pv (argBest bt (n - 1)) x → (∀ b o, b ∉ wr → b ≠ B → z.heap.get? b = some o → h'.get? b = some o) → Z (.ok (.ret x)) { z with heap := h', toks := tk }) :
    codeAny (model P w) A (.builtin "max.loop" ⟨[.ref J, .none, .ref B], []⟩) Z z := by
  have nw : B ∉ wr := fun h => fresh (W.sub _ h)
  have nm : (toString "max" ++ toString ".loop" : String) = "max.loop" := by decide
  refine codeAny_builtin PySem.F.entry_max_loop ?_
  rw [Around.under_plainId PySem.F.plain_max_loop _]
  refine (show wpAny _ A.in1 (seqItems? (.ref B) >>= _) _ _ z from wpAny_bind (wpAny_seqItems hB rfl ?_))
  refine (show wpAny _ A.in1 (tryCatch (pyNext (.ref J)) _ >>= _) _ _ z from wpAny_bind (wpAny_tryCatch (W.item 0 z _ _ hn hst fun x h' tk hx hst' kk => ?_)))
  have hB' := kk B _ nw hB
  refine (show wpAny _ A.in1 (updateSeq B (fun _ => #[x, x]) >>= _) _ _ _ from wpAny_bind (wpAny_updateSeq hB' rfl ?_))
  rw [nm]
  have up : ∀ (f : Obj → Obj) b o, b ≠ B → h'.get? b = some o → (h'.update B f).get? b = some o := fun f b o b2 e => (Heap.get?_update_other _ f (Ne.symm b2)).trans e
  refine wpAny_pure ⟨plainId_quiet PySem.F.plain_max_loop _, mxLoop W bt Kp B fresh keep cmp _ 0 _ x _ rfl hn (W.frame _ _ _ hst' fun b hbf o e => up _ b o (fun q => fresh (q ▸ hbf)) e) (keep _ _ (keep _ _ kp fun b o b1 _ e => kk b o b1 e) fun b o _ b2 e => up _ b o b2 e) hx (Heap.get?_update_self _ hB' rfl) fun y h'' tk'' hy kk'' => ?_⟩
  exact hZ y h'' tk'' hy fun b o b1 b2 e => kk'' b o b1 b2 (up _ b o b2 (kk b o b1 e))
/-- max of a list of data of one kind: the item at its first best place -/
theorem mxData {l : Addr} {vs : List Value} {ds : List PyData} {Q : Value → Shared → Prop} (hA : A.handled = none) (hl : s.heap.IsList l vs.toArray) (hn : 0 < vs.length) (ln : ds.length = vs.length) (rd : ∀ (i : Nat) v d, vs[i]? = some v → ds[i]? = some d → ∃ as, Reads s.heap v d as)
    (al : ∀ d ∈ ds, ∀ e ∈ ds, PySem.W.alike d e = true ∧ d ≠ .none ∧ A.in1.units + min d.depth e.depth < cLine)
    (h : ∀ h' tk v, vs[argBest (fun i j => PySem.W.dataLt (ds.getD j .none) (ds.getD i .none)) (vs.length - 1)]? = some v → (∀ b o, s.heap.get? b = some o → h'.get? b = some o) → Q v { s with heap := h', toks := tk }) :
    wpAny (model P w) A (call (.builtin "max") [.ref l]) Q E s := by
  have nm : (toString "max" ++ toString ".loop" : String) = "max.loop" := by decide
  refine call_function_tree PySem.F.kind_max PySem.F.plain_max PySem.F.entry_max (PySem.F.args_max1 _) ?_
  refine (show wpAny _ A.in1 (Builtin.Builtins.bindParams "max" ["key", "default"] 0 ⟨[], []⟩ >>= _) _ _ s from wpAny_bind (wpAny_of_eq (show Builtin.Builtins.bindParams "max" ["key", "default"] 0 ⟨[], []⟩ = pure [none, none] from rfl) (wpAny_bind (wpAny_pure ?_))))
  refine wpAny_bind (wpAny_pyIter_list hl (wpAny_bind (wpAny_newObj_type ?_)))
  have ll : l < s.heap.objs.size := by
    obtain ⟨o, e, _⟩ := hl
    exact Heap.lt_size e
  have z1 : (s.heap.push { cls := .type "list_iterator", data := .fields #[.ref l, .int 0 0] }).objs.size = s.heap.objs.size + 1 := Heap.size_push ..
  have li : l ≠ s.heap.objs.size := Nat.ne_of_lt ll
  have fresh : (s.heap.push { cls := .type "list_iterator", data := .fields #[.ref l, .int 0 0] }).objs.size ∉ [s.heap.objs.size, l] := by
    rw [z1]
    intro m
    rcases List.mem_cons.mp m with m | m
    · exact absurd m (Nat.ne_of_gt (Nat.lt_succ_self _))
    · exact absurd (List.mem_singleton.mp m) (Nat.ne_of_gt (Nat.lt_succ_of_lt ll))
  have hA3 : A.in1.handled = none := by simp [hA]
  rw [nm]
  refine wpAny_pure ⟨plainId_quiet PySem.F.plain_max_loop _, ?_⟩
  have old : ∀ b o, s.heap.get? b = some o → b ∉ [s.heap.objs.size] ∧ b ≠ (s.heap.push { cls := .type "list_iterator", data := .fields #[.ref l, .int 0 0] }).objs.size := fun b o e => by
    have lb := Heap.lt_size e
    rw [z1]
    exact ⟨fun m => absurd (List.mem_singleton.mp m) (Nat.ne_of_lt lb), Nat.ne_of_lt (Nat.lt_succ_of_lt lb)⟩
  refine mxFirst (c := 0) (Walks.list hA3 _ l li vs.toArray) (fun i j => PySem.W.dataLt (ds.getD j .none) (ds.getD i .none)) (fun h => ∀ b o, s.heap.get? b = some o → h.get? b = some o) _ fresh (fun h h' kp kk b o e => kk b o (old b o e).1 (old b o e).2 (kp b o e)) (fun i j x y z Q' E' kp hx hy q => ?_) (by simpa using hn) ?st ?kp ?hB (fun x h' tk hx kk => ?_)
  case st => exact ⟨⟨_, Heap.get?_push_of_some _ (Heap.get?_push_size _ rfl), rfl, rfl⟩, (hl.push _).push _⟩
  case kp => exact fun b o e => Heap.get?_push_of_some _ (Heap.get?_push_of_some _ e)
  case hB => exact Heap.get?_push_size _ rfl
  · rw [List.getElem?_toArray] at hx hy
    have il := (List.getElem?_eq_some_iff.mp hx).1
    have jl := (List.getElem?_eq_some_iff.mp hy).1
    have di := (getD_mem (l := ds) (d := PyData.none) (show i < ds.length by omega))
    have dj := (getD_mem (l := ds) (d := PyData.none) (show j < ds.length by omega))
    obtain ⟨as, r1⟩ := rd i x _ hx di.2
    obtain ⟨bs, r2⟩ := rd j y _ hy dj.2
    obtain ⟨a1, a2, a3⟩ := al _ di.1 _ dj.1
    exact PySem.W.rcGt_alike _ _ A.in1 z x y as bs (PyProof.Rows.Reads.keeps kp r1) (PyProof.Rows.Reads.keeps kp r2) a1 a2 a3 P w E' Q' q
  · rw [List.getElem?_toArray] at hx
    refine h h' tk x (by simpa using hx) fun b o e => kk b o (old b o e).1 (old b o e).2 (Heap.get?_push_of_some _ (Heap.get?_push_of_some _ e))
/-- the loop of min: the order may lean on what the heap keeps -/
theorem mnLoop (W : Walks P w A.in1 J fp wr n Pv Sv) (bt : Nat → Nat → Bool) (Kp : Heap → Prop) (B : Addr) (fresh : B ∉ fp) (keep : ∀ h h', Kp h → (∀ b o, b ∉ wr → b ≠ B → h.get? b = some o → h'.get? b = some o) → Kp h')
    (cmp : ∀ i j x y (z : Shared) (Q : Value → Shared → Prop) (E : Value → Shared → Prop), Kp z.heap → Pv i x → Pv j y → Q (.bool (bt i j)) z → wpAny (model P w) A.in1 (richCompare .Lt x y) Q E z) :
    ∀ (k j : Nat) (z : Shared) (best : Value) (c : Nat), n - (j + 1) = k → j + 1 ≤ n → Sv (j + 1) z.heap → Kp z.heap → Pv (argBest bt j) best →
      z.heap.get? B = some { cls := .type "list", dict := none, data := .seq #[best, best] c, slots := #[] } →
      (∀ x h' tk, Pv (argBest bt (n - 1)) x → (∀ b o, b ∉ wr → b ≠ B → z.heap.get? b = some o → h'.get? b = some o) → Z (.ok (.ret x)) { z with heap := h', toks := tk }) →
      codeAny (model P w) A (.builtin "min.loop" ⟨[.ref J, .none, .ref B], []⟩) Z z := by
  have nw : B ∉ wr := fun h => fresh (W.sub _ h)
  have nm : (toString "min" ++ toString ".loop" : String) = "min.loop" := by decide
  intro k
  induction k with
  | zero =>
    intro j z best c hk hj hst kp hP hB hZ
    have jn : j + 1 = n := by omega
    refine codeAny_builtin PySem.F.entry_min_loop ?_
    rw [Around.under_plainId PySem.F.plain_min_loop _]
    refine (show wpAny _ A.in1 (seqItems? (.ref B) >>= _) _ _ z from wpAny_bind (wpAny_seqItems hB rfl ?_))
    refine (show wpAny _ A.in1 (tryCatch (pyNext (.ref J)) _ >>= _) _ _ z from wpAny_bind (wpAny_tryCatch (W.done z _ _ (jn ▸ hst) fun h' tk kk => ?_)))
    have hB' := kk B _ nw hB
    refine (show wpAny _ A.in1 (updateSeq B (fun _ => #[]) >>= _) _ _ _ from wpAny_bind (wpAny_updateSeq hB' rfl (wpAny_bind (wpAny_letGo (wpAny_pure ?_)))))
    exact hZ best _ tk (jn ▸ hP) fun b o b1 b2 e => (Heap.get?_update_other _ _ (Ne.symm b2)).trans (kk b o b1 e)
  | succ k ih =>
    intro j z best c hk hj hst kp hP hB hZ
    have jl : j + 1 < n := by omega
    refine codeAny_builtin PySem.F.entry_min_loop ?_
    rw [Around.under_plainId PySem.F.plain_min_loop _]
    refine (show wpAny _ A.in1 (seqItems? (.ref B) >>= _) _ _ z from wpAny_bind (wpAny_seqItems hB rfl ?_))
    refine (show wpAny _ A.in1 (tryCatch (pyNext (.ref J)) _ >>= _) _ _ z from wpAny_bind (wpAny_tryCatch (W.item (j + 1) z _ _ jl hst fun x h' tk hx hst' kk => ?_)))
    have hB' := kk B _ nw hB
    have kp' : Kp h' := keep _ _ kp fun b o b1 _ e => kk b o b1 e
    refine (show wpAny _ A.in1 (tryCatch (holding [x, x] (richCompare .Lt x best >>= _)) _ >>= _) _ _ _ from wpAny_bind (wpAny_tryCatch (wpAny_holding (wpAny_bind (cmp (j + 1) (argBest bt j) x best _ _ _ kp' hx hP ?_)))))
    refine wpAny_bind (wpAny_holding (wpAny_truthy_bool (wpAny_bind (wpAny_letGo (wpAny_pure ?_)))))
    cases hb : bt (j + 1) (argBest bt j) with
    | true =>
      rw [if_pos rfl]
      refine wpAny_bind (wpAny_updateSeq hB' rfl (wpAny_bind (wpAny_letGo ?_)))
      rw [nm]
      have up : ∀ (f : Obj → Obj) b o, b ≠ B → h'.get? b = some o → (h'.update B f).get? b = some o := fun f b o b2 e => (Heap.get?_update_other _ f (Ne.symm b2)).trans e
      refine wpAny_pure ⟨plainId_quiet PySem.F.plain_min_loop _, ih (j + 1) _ x _ (by omega) jl (W.frame _ _ _ hst' fun b hbf o e => up _ b o (fun q => fresh (q ▸ hbf)) e) (keep _ _ kp' fun b o _ b2 e => up _ b o b2 e) (by unfold argBest; rw [hb, if_pos rfl]; exact hx) (Heap.get?_update_self _ hB' rfl) fun y h'' tk'' hy kk'' => ?_⟩
      exact hZ y h'' tk'' hy fun b o b1 b2 e => kk'' b o b1 b2 (up _ b o b2 (kk b o b1 e))
    | false =>
      rw [if_neg Bool.false_ne_true]
      refine wpAny_bind (wpAny_letGo ?_)
      rw [nm]
      refine wpAny_pure ⟨plainId_quiet PySem.F.plain_min_loop _, ih (j + 1) _ best c (by omega) jl hst' kp' (by unfold argBest; rw [hb, if_neg Bool.false_ne_true]; exact hP) hB' fun y h'' tk'' hy kk'' => ?_⟩
      exact hZ y h'' tk'' hy fun b o b1 b2 e => kk'' b o b1 b2 (kk b o b1 e)
theorem mnFirst (W : Walks P w A.in1 J fp wr n Pv Sv) (bt : Nat → Nat → Bool) (Kp : Heap → Prop) (B : Addr) (fresh : B ∉ fp) (keep : ∀ h h', Kp h → (∀ b o, b ∉ wr → b ≠ B → h.get? b = some o → h'.get? b = some o) → Kp h')
    (cmp : ∀ i j x y (z : Shared) (Q : Value → Shared → Prop) (E : Value → Shared → Prop), Kp z.heap → Pv i x → Pv j y → Q (.bool (bt i j)) z → wpAny (model P w) A.in1 (richCompare .Lt x y) Q E z)
    (hn : 0 < n) {z : Shared} {c : Nat} (hst : Sv 0 z.heap) (kp : Kp z.heap) (hB : z.heap.get? B = some { cls := .type "list", dict := none, data := .seq #[] c, slots := #[] })
    (hZ : ∀ x h' tk, Pv (argBest bt (n - 1)) x → (∀ b o, b ∉ wr → b ≠ B → z.heap.get? b = some o → h'.get? b = some o) → Z (.ok (.ret x)) { z with heap := h', toks := tk }) :
    codeAny (model P w) A (.builtin "min.loop" ⟨[.ref J, .none, .ref B], []⟩) Z z := by
  have nw : B ∉ wr := fun h => fresh (W.sub _ h)
  have nm : (toString "min" ++ toString ".loop" : String) = "min.loop" := by decide
  refine codeAny_builtin PySem.F.entry_min_loop ?_
  rw [Around.under_plainId PySem.F.plain_min_loop _]
  refine (show wpAny _ A.in1 (seqItems? (.ref B) >>= _) _ _ z from wpAny_bind (wpAny_seqItems hB rfl ?_))
  refine (show wpAny _ A.in1 (tryCatch (pyNext (.ref J)) _ >>= _) _ _ z from wpAny_bind (wpAny_tryCatch (W.item 0 z _ _ hn hst fun x h' tk hx hst' kk => ?_)))
  have hB' := kk B _ nw hB
  refine (show wpAny _ A.in1 (updateSeq B (fun _ => #[x, x]) >>= _) _ _ _ from wpAny_bind (wpAny_updateSeq hB' rfl ?_))
  rw [nm]
  have up : ∀ (f : Obj → Obj) b o, b ≠ B → h'.get? b = some o → (h'.update B f).get? b = some o := fun f b o b2 e => (Heap.get?_update_other _ f (Ne.symm b2)).trans e
  refine wpAny_pure ⟨plainId_quiet PySem.F.plain_min_loop _, mnLoop W bt Kp B fresh keep cmp _ 0 _ x _ rfl hn (W.frame _ _ _ hst' fun b hbf o e => up _ b o (fun q => fresh (q ▸ hbf)) e) (keep _ _ (keep _ _ kp fun b o b1 _ e => kk b o b1 e) fun b o _ b2 e => up _ b o b2 e) hx (Heap.get?_update_self _ hB' rfl) fun y h'' tk'' hy kk'' => ?_⟩
  exact hZ y h'' tk'' hy fun b o b1 b2 e => kk'' b o b1 b2 (up _ b o b2 (kk b o b1 e))
/-- min of a list of data of one kind: the item at its first best place -/
theorem mnData {l : Addr} {vs : List Value} {ds : List PyData} {Q : Value → Shared → Prop} (hA : A.handled = none) (hl : s.heap.IsList l vs.toArray) (hn : 0 < vs.length) (ln : ds.length = vs.length) (rd : ∀ (i : Nat) v d, vs[i]? = some v → ds[i]? = some d → ∃ as, Reads s.heap v d as)
    (al : ∀ d ∈ ds, ∀ e ∈ ds, PySem.W.alike d e = true ∧ d ≠ .none ∧ A.in1.units + min d.depth e.depth < cLine)
    (h : ∀ h' tk v, vs[argBest (fun i j => PySem.W.dataLt (ds.getD i .none) (ds.getD j .none)) (vs.length - 1)]? = some v → (∀ b o, s.heap.get? b = some o → h'.get? b = some o) → Q v { s with heap := h', toks := tk }) :
    wpAny (model P w) A (call (.builtin "min") [.ref l]) Q E s := by
  have nm : (toString "min" ++ toString ".loop" : String) = "min.loop" := by decide
  refine call_function_tree PySem.F.kind_min PySem.F.plain_min PySem.F.entry_min (PySem.F.args_min1 _) ?_
  refine (show wpAny _ A.in1 (Builtin.Builtins.bindParams "min" ["key", "default"] 0 ⟨[], []⟩ >>= _) _ _ s from wpAny_bind (wpAny_of_eq (show Builtin.Builtins.bindParams "min" ["key", "default"] 0 ⟨[], []⟩ = pure [none, none] from rfl) (wpAny_bind (wpAny_pure ?_))))
  refine wpAny_bind (wpAny_pyIter_list hl (wpAny_bind (wpAny_newObj_type ?_)))
  have ll : l < s.heap.objs.size := by
    obtain ⟨o, e, _⟩ := hl
    exact Heap.lt_size e
  have z1 : (s.heap.push { cls := .type "list_iterator", data := .fields #[.ref l, .int 0 0] }).objs.size = s.heap.objs.size + 1 := Heap.size_push ..
  have li : l ≠ s.heap.objs.size := Nat.ne_of_lt ll
  have fresh : (s.heap.push { cls := .type "list_iterator", data := .fields #[.ref l, .int 0 0] }).objs.size ∉ [s.heap.objs.size, l] := by
    rw [z1]
    intro m
    rcases List.mem_cons.mp m with m | m
    · exact absurd m (Nat.ne_of_gt (Nat.lt_succ_self _))
    · exact absurd (List.mem_singleton.mp m) (Nat.ne_of_gt (Nat.lt_succ_of_lt ll))
  have hA3 : A.in1.handled = none := by simp [hA]
  rw [nm]
  refine wpAny_pure ⟨plainId_quiet PySem.F.plain_min_loop _, ?_⟩
  have old : ∀ b o, s.heap.get? b = some o → b ∉ [s.heap.objs.size] ∧ b ≠ (s.heap.push { cls := .type "list_iterator", data := .fields #[.ref l, .int 0 0] }).objs.size := fun b o e => by
    have lb := Heap.lt_size e
    rw [z1]
    exact ⟨fun m => absurd (List.mem_singleton.mp m) (Nat.ne_of_lt lb), Nat.ne_of_lt (Nat.lt_succ_of_lt lb)⟩
  refine mnFirst (c := 0) (Walks.list hA3 _ l li vs.toArray) (fun i j => PySem.W.dataLt (ds.getD i .none) (ds.getD j .none)) (fun h => ∀ b o, s.heap.get? b = some o → h.get? b = some o) _ fresh (fun h h' kp kk b o e => kk b o (old b o e).1 (old b o e).2 (kp b o e)) (fun i j x y z Q' E' kp hx hy q => ?_) (by simpa using hn) ?st ?kp ?hB (fun x h' tk hx kk => ?_)
  case st => exact ⟨⟨_, Heap.get?_push_of_some _ (Heap.get?_push_size _ rfl), rfl, rfl⟩, (hl.push _).push _⟩
  case kp => exact fun b o e => Heap.get?_push_of_some _ (Heap.get?_push_of_some _ e)
  case hB => exact Heap.get?_push_size _ rfl
  · rw [List.getElem?_toArray] at hx hy
    have il := (List.getElem?_eq_some_iff.mp hx).1
    have jl := (List.getElem?_eq_some_iff.mp hy).1
    have di := (getD_mem (l := ds) (d := PyData.none) (show i < ds.length by omega))
    have dj := (getD_mem (l := ds) (d := PyData.none) (show j < ds.length by omega))
    obtain ⟨as, r1⟩ := rd i x _ hx di.2
    obtain ⟨bs, r2⟩ := rd j y _ hy dj.2
    obtain ⟨a1, a2, a3⟩ := al _ di.1 _ dj.1
    exact PySem.W.rcLt_alike _ _ A.in1 z x y as bs (PyProof.Rows.Reads.keeps kp r1) (PyProof.Rows.Reads.keeps kp r2) a1 a2 a3 P w E' Q' q
  · rw [List.getElem?_toArray] at hx
    refine h h' tk x (by simpa using hx) fun b o e => kk b o (old b o e).1 (old b o e).2 (Heap.get?_push_of_some _ (Heap.get?_push_of_some _ e))
end
def ltP (p q : Int × Int) : Bool := decide (p.1 < q.1 ∨ (p.1 = q.1 ∧ p.2 < q.2))
def bestP (ps : List (Int × Int)) (b : Int × Int → Int × Int → Bool) : Int × Int := ps.getD (argBest (fun i j => b (ps.getD i (0, 0)) (ps.getD j (0, 0))) (ps.length - 1)) (0, 0)
/-- the greatest, the least pair -/
def maxP (ps : List (Int × Int)) : Int × Int := bestP ps fun p q => ltP q p
def minP (ps : List (Int × Int)) : Int × Int := bestP ps ltP
theorem argBest_le {bt : Nat → Nat → Bool} : ∀ k, argBest bt k ≤ k
  | 0 => Nat.le_refl 0
  | k + 1 => by
    unfold argBest
    split
    · exact Nat.le_refl _
    · exact Nat.le_succ_of_le (argBest_le k)
theorem bestP_mem {ps : List (Int × Int)} {b : Int × Int → Int × Int → Bool} (h : 0 < ps.length) : bestP ps b ∈ ps := by
  have := argBest_le (bt := fun i j => b (ps.getD i (0, 0)) (ps.getD j (0, 0))) (ps.length - 1)
  exact (getD_mem (l := ps) (d := (0, 0)) (by omega)).1
theorem argBest_top {bt : Nat → Nat → Bool} (tr : ∀ i j k, bt j i = false → bt k j = false → bt k i = false) (rf : ∀ i, bt i i = false) (as : ∀ i j, bt i j = true → bt j i = false) : ∀ k j, j ≤ k → bt j (argBest bt k) = false
  | 0, j, h => by rw [show j = 0 by omega]; exact rf 0
  | k + 1, j, h => by
    unfold argBest
    split
    · rename_i c
      by_cases e : j = k + 1
      · subst e; exact rf _
      · exact tr _ _ _ (as _ _ c) (argBest_top tr rf as k j (by omega))
    · rename_i c
      by_cases e : j = k + 1
      · subst e; exact Bool.eq_false_iff.mpr c
      · exact argBest_top tr rf as k j (by omega)
theorem maxP_top {ps : List (Int × Int)} : ∀ p ∈ ps, p.1 ≤ (maxP ps).1 := fun p hp => by
  obtain ⟨j, hj⟩ := List.mem_iff_getElem?.mp hp
  have hl := (List.getElem?_eq_some_iff.mp hj).1
  have := argBest_top (bt := fun i j => ltP (ps.getD j (0, 0)) (ps.getD i (0, 0))) (fun i j k h1 h2 => by
    unfold ltP at *; rw [decide_eq_false_iff_not] at *; omega) (fun i => by unfold ltP; rw [decide_eq_false_iff_not]; omega) (fun i j h => by
    unfold ltP at *; rw [decide_eq_true_eq] at h; rw [decide_eq_false_iff_not]; omega) (ps.length - 1) j (by omega)
  have e : ps.getD j (0, 0) = p := by rw [List.getD_eq_getElem?_getD, hj]; rfl
  have t2 : ltP (maxP ps) p = false := by rw [← e]; exact this
  unfold ltP at t2
  rw [decide_eq_false_iff_not] at t2
  omega
theorem minP_low {ps : List (Int × Int)} : ∀ p ∈ ps, (minP ps).1 ≤ p.1 := fun p hp => by
  obtain ⟨j, hj⟩ := List.mem_iff_getElem?.mp hp
  have hl := (List.getElem?_eq_some_iff.mp hj).1
  have := argBest_top (bt := fun i j => ltP (ps.getD i (0, 0)) (ps.getD j (0, 0))) (fun i j k h1 h2 => by
    unfold ltP at *; rw [decide_eq_false_iff_not] at *; omega) (fun i => by unfold ltP; rw [decide_eq_false_iff_not]; omega) (fun i j h => by
    unfold ltP at *; rw [decide_eq_true_eq] at h; rw [decide_eq_false_iff_not]; omega) (ps.length - 1) j (by omega)
  have e : ps.getD j (0, 0) = p := by rw [List.getD_eq_getElem?_getD, hj]; rfl
  have t2 : ltP p (minP ps) = false := by rw [← e]; exact this
  unfold ltP at t2
  rw [decide_eq_false_iff_not] at t2
  omega
def rBestP (K : PySem.W.Frag) (b : Int × Int → Int × Int → Bool) : List V → Hp → VK → Prop := fun vs H Q => ∃ (a : Addr) (xs : List V) (ps : List (Int × Int)), vs = [V.ref a] ∧ SqL K H a xs ∧ DpAll K H xs (ps.map ePr) ∧ 0 < ps.length ∧ ∀ (j : Nat) x, xs[j]? = some x → ps[j]? = some (bestP ps b) → Q x H
theorem readsItems {X : Cx} {pins : List (Addr × Obj)} {σ : L2.St} {H : Hp} {s : Shared} (I : Inv X pins σ H s) : ∀ {xs : List V} {us : List Value} {ds : List PD}, Vals xs us → DpAll X.K H xs ds → us.length = ds.length ∧ ∀ (i : Nat) u d, us[i]? = some u → ds[i]? = some d → (∃ as, Reads s.heap u d as) ∧ ∃ x, xs[i]? = some x ∧ RelV x u
  | _, _, _, .nil, h => by cases h; exact ⟨rfl, fun i u d e => by simp at e⟩
  | _, _, _, .cons r rs, h => by
    cases h with
    | cons h1 h2 =>
      obtain ⟨l, g⟩ := readsItems I rs h2
      refine ⟨by simp [l], fun i u d e1 e2 => ?_⟩
      cases i with
      | zero => cases e1; cases e2; exact ⟨Dp.reads I _ _ _ h1 r, _, rfl, r⟩
      | succ i => exact g i u d e1 e2
theorem pair_alike (p q : Int × Int) : PySem.W.alike (ePr p) (ePr q) = true ∧ ePr p ≠ .none ∧ min (ePr p).depth (ePr q).depth ≤ 2 := by
  refine ⟨rfl, (fun h => by cases h), ?_⟩
  have : (ePr p).depth ≤ 2 := (shT2 shI shI (k := 1)).2
  omega
theorem getD_ePr (ps : List (Int × Int)) {i : Nat} (h : i < ps.length) : (ps.map ePr).getD i .none = ePr (ps.getD i (0, 0)) := by
  rw [List.getD_eq_getElem?_getD, List.getElem?_map, (getD_mem (l := ps) (d := (0, 0)) h).2]
  rfl
theorem argBest_congr {b c : Nat → Nat → Bool} : ∀ {k : Nat}, (∀ i j, i ≤ k → j ≤ k → b i j = c i j) → argBest b k = argBest c k
  | 0, _ => rfl
  | k + 1, h => by
    have ih := argBest_congr (b := b) (c := c) (k := k) fun i j hi hj => h i j (by omega) (by omega)
    unfold argBest
    rw [← ih, h (k + 1) (argBest b k) (Nat.le_refl _) (Nat.le_succ_of_le (argBest_le k))]
section
variable {X : Cx}
theorem cr_maxP (hc : X.calm = true) (hu : X.A.units + 65 < cLine) : CallR X (.builtin "max") (rBestP X.K fun p q => ltP q p) := by
  intro pins s σ H vs us Q I r h
  obtain ⟨a, xs, ps, rfl, hs, hd, hn, q⟩ := h
  obtain ⟨its, rv, pl, hz⟩ := I.list hs
  rw [Vals.ref1 r]
  obtain ⟨ln, g⟩ := readsItems I rv hd
  rw [List.length_map] at ln
  refine mxData (ds := ps.map ePr) (I.ok.hd hc) pl.isList (by omega) (by rw [List.length_map]; omega) (fun i v d e1 e2 => (g i v d e1 e2).1) (fun d hd' e he => ?_) fun h' tk v hv hk => ?_
  · obtain ⟨p, _, rfl⟩ := List.mem_map.mp hd'
    obtain ⟨p', _, rfl⟩ := List.mem_map.mp he
    obtain ⟨a1, a2, a3⟩ := pair_alike p p'
    refine ⟨a1, a2, ?_⟩
    show X.A.units + 1 + _ < cLine
    omega
  · have eb : argBest (fun i j => PySem.W.dataLt ((ps.map ePr).getD j .none) ((ps.map ePr).getD i .none)) (its.length - 1) = argBest (fun i j => ltP (ps.getD j (0, 0)) (ps.getD i (0, 0))) (ps.length - 1) := by
      rw [ln]
      refine argBest_congr fun i j hi hj => ?_
      rw [getD_ePr ps (by omega), getD_ePr ps (by omega)]
      exact PySem.W.dataLt_ii _ _ _ _
    rw [eb] at hv
    have lt := argBest_le (bt := fun i j => ltP (ps.getD j (0, 0)) (ps.getD i (0, 0))) (ps.length - 1)
    have pj := (getD_mem (l := ps) (d := (0, 0)) (show argBest (fun i j => ltP (ps.getD j (0, 0)) (ps.getD i (0, 0))) (ps.length - 1) < ps.length by omega)).2
    obtain ⟨_, x, e1, r1⟩ := g _ v (ePr (bestP ps fun p q => ltP q p)) hv (by rw [List.getElem?_map, pj]; rfl)
    exact ⟨x, H, I.kept (t' := tk) hk, r1, q _ x e1 pj⟩
theorem cr_minP (hc : X.calm = true) (hu : X.A.units + 65 < cLine) : CallR X (.builtin "min") (rBestP X.K ltP) := by
  intro pins s σ H vs us Q I r h
  obtain ⟨a, xs, ps, rfl, hs, hd, hn, q⟩ := h
  obtain ⟨its, rv, pl, hz⟩ := I.list hs
  rw [Vals.ref1 r]
  obtain ⟨ln, g⟩ := readsItems I rv hd
  rw [List.length_map] at ln
  refine mnData (ds := ps.map ePr) (I.ok.hd hc) pl.isList (by omega) (by rw [List.length_map]; omega) (fun i v d e1 e2 => (g i v d e1 e2).1) (fun d hd' e he => ?_) fun h' tk v hv hk => ?_
  · obtain ⟨p, _, rfl⟩ := List.mem_map.mp hd'
    obtain ⟨p', _, rfl⟩ := List.mem_map.mp he
    obtain ⟨a1, a2, a3⟩ := pair_alike p p'
    refine ⟨a1, a2, ?_⟩
    show X.A.units + 1 + _ < cLine
    omega
  · have eb : argBest (fun i j => PySem.W.dataLt ((ps.map ePr).getD i .none) ((ps.map ePr).getD j .none)) (its.length - 1) = argBest (fun i j => ltP (ps.getD i (0, 0)) (ps.getD j (0, 0))) (ps.length - 1) := by
      rw [ln]
      refine argBest_congr fun i j hi hj => ?_
      rw [getD_ePr ps (by omega), getD_ePr ps (by omega)]
      exact PySem.W.dataLt_ii _ _ _ _
    rw [eb] at hv
    have lt := argBest_le (bt := fun i j => ltP (ps.getD i (0, 0)) (ps.getD j (0, 0))) (ps.length - 1)
    have pj := (getD_mem (l := ps) (d := (0, 0)) (show argBest (fun i j => ltP (ps.getD i (0, 0)) (ps.getD j (0, 0))) (ps.length - 1) < ps.length by omega)).2
    obtain ⟨_, x, e1, r1⟩ := g _ v (ePr (bestP ps ltP)) hv (by rw [List.getElem?_map, pj]; rfl)
    exact ⟨x, H, I.kept (t' := tk) hk, r1, q _ x e1 pj⟩
theorem pc_bestP {K : PySem.W.Frag} {b : Int × Int → Int × Int → Bool} {ps : List (Int × Int)} (h : 0 < ps.length) : PC K (rBestP K b) [.list (ps.map ePr)] (.va (ePr (bestP ps b))) := fun F H vs Q e hx q => by
  cases hx with
  | cons h1 h2 =>
    cases h2
    cases h1 with
    | lst hs ha => exact ⟨_, _, ps, rfl, Same.seq e hs, DpAll.mono ha e, h, fun j x e1 e2 => by
        obtain ⟨d, f1, f2⟩ := DpAll.at ha e1
        rw [List.getElem?_map, e2] at f1
        cases f1
        exact q F H x (Xt.refl e) f2⟩
variable {W : WX} {lv : Nat} {a : Expr} {ρ ρ1 : En} {ps : List (Int × Int)} {p pos : Pos}
theorem ej_maxP (C : Ok X W lv) (hm : X.mg "max" = none) (ha : EJ X W a ρ (.ok ρ1 (.va (.list (ps.map ePr))))) (h : 0 < ps.length) (hg : Gl X "max" := by rfl) (he : starEach [a] X.env = (false, eval a X.env) :: starEach [] X.env := by rfl) (hpl : (backTo pos (starEach [] X.env)).any (·.1) = false := by rfl) :
    EJ X W (.Call (.Name "max" p) [a] [] pos) ρ (.ok ρ1 (.va (ePr (maxP ps)))) := ej_blt (cr_maxP C.calm C.u65) hm (aj_cons ha aj_nil he) (pc_bestP h) (hg := hg) (he := he) (hpl := hpl)
theorem ej_minP (C : Ok X W lv) (hm : X.mg "min" = none) (ha : EJ X W a ρ (.ok ρ1 (.va (.list (ps.map ePr))))) (h : 0 < ps.length) (hg : Gl X "min" := by rfl) (he : starEach [a] X.env = (false, eval a X.env) :: starEach [] X.env := by rfl) (hpl : (backTo pos (starEach [] X.env)).any (·.1) = false := by rfl) :
    EJ X W (.Call (.Name "min" p) [a] [] pos) ρ (.ok ρ1 (.va (ePr (minP ps)))) := ej_blt (cr_minP C.calm C.u65) hm (aj_cons ha aj_nil he) (pc_bestP h) (hg := hg) (he := he) (hpl := hpl)
end
end Pj

set_option Elab.async false
set_option linter.all false
set_option maxRecDepth 100000
/-! Ql: reasons. -/
namespace Pj
open PySem PySem.Spec PyProof.Rows L2
def lowOf (rs : List (List Rng)) (i k : Nat) : Int := (unR (rAt rs i k)).1
def highOf (rs : List (List Rng)) (i k : Nat) : Int := (unR (rAt rs i k)).2
def lowPs (rs : List (List Rng)) (k last : Nat) : List (Int × Int) := (List.range (last + 1)).map fun i => (lowOf rs i k, -((i : Nat) : Int))
def highPs (rs : List (List Rng)) (k first : Nat) : List (Int × Int) := (List.range (rs.length - first)).map fun j => (highOf rs (first + j) k, ((first + j : Nat) : Int))
def bestLow (rs : List (List Rng)) (k last : Nat) : Int × Nat := ((maxP (lowPs rs k last)).1, (-(maxP (lowPs rs k last)).2).toNat)
def bestHigh (rs : List (List Rng)) (k first : Nat) : Int × Nat := ((minP (highPs rs k first)).1, (minP (highPs rs k first)).2.toNat)
theorem bestLow_spec (rs : List (List Rng)) (k last : Nat) : (bestLow rs k last).2 ≤ last ∧ (bestLow rs k last).1 = lowOf rs (bestLow rs k last).2 k ∧ (∀ i, i ≤ last → lowOf rs i k ≤ (bestLow rs k last).1) ∧ maxP (lowPs rs k last) = ((bestLow rs k last).1, -(((bestLow rs k last).2 : Nat) : Int)) := by
  have hm : maxP (lowPs rs k last) ∈ lowPs rs k last := bestP_mem (by unfold lowPs; simp)
  have ht := maxP_top (ps := lowPs rs k last)
  unfold bestLow
  generalize maxP (lowPs rs k last) = p at *
  unfold lowPs at hm
  obtain ⟨i, hi, rfl⟩ := List.mem_map.mp hm
  rw [List.mem_range] at hi
  dsimp only
  rw [Int.neg_neg, Int.toNat_natCast]
  exact ⟨by omega, rfl, fun j hj => ht (lowOf rs j k, -((j : Nat) : Int)) (by unfold lowPs; exact List.mem_map.mpr ⟨j, by rw [List.mem_range]; omega, rfl⟩), rfl⟩
theorem bestHigh_spec (rs : List (List Rng)) (k first : Nat) (h : first < rs.length) : first ≤ (bestHigh rs k first).2 ∧ (bestHigh rs k first).2 < rs.length ∧ (bestHigh rs k first).1 = highOf rs (bestHigh rs k first).2 k ∧ (∀ i, first ≤ i → i < rs.length → (bestHigh rs k first).1 ≤ highOf rs i k) ∧ minP (highPs rs k first) = ((bestHigh rs k first).1, (((bestHigh rs k first).2 : Nat) : Int)) := by
  have hm : minP (highPs rs k first) ∈ highPs rs k first := bestP_mem (by unfold highPs; simp; omega)
  have ht := minP_low (ps := highPs rs k first)
  unfold bestHigh
  generalize minP (highPs rs k first) = p at *
  unfold highPs at hm
  obtain ⟨i, hi, rfl⟩ := List.mem_map.mp hm
  rw [List.mem_range] at hi
  dsimp only
  rw [Int.toNat_natCast]
  refine ⟨by omega, by omega, rfl, fun j hj hj2 => ht (highOf rs j k, ((j : Nat) : Int)) (by unfold highPs; exact List.mem_map.mpr ⟨j - first, by rw [List.mem_range]; omega, by rw [show first + (j - first) = j by omega]⟩), rfl⟩
/-! ### the reasons that the program returns -/
inductive Rea where
  | num (i k : Nat)
  | opt (k f s : Nat)
  | low (i : Nat) (ps : List Nat)
  | high (i : Nat) (ps : List Nat)
  | growth (f s : Nat) (ps : List (Option (Nat × Nat)))
def ePick : Option (Nat × Nat) → PD
  | none => .none
  | some p => .tuple [.int (p.1 : Nat), .int (p.2 : Nat)]
def eRea : Rea → PD
  | .num i k => .tuple [.str "number", .int (i : Nat), .int (k : Nat)]
  | .opt k f s => .tuple [.str "option", .int (k : Nat), .int (f : Nat), .int (s : Nat)]
  | .low i ps => .tuple [.str "low", .int (i : Nat), .tuple (ps.map fun j => .int (j : Nat))]
  | .high i ps => .tuple [.str "high", .int (i : Nat), .tuple (ps.map fun j => .int (j : Nat))]
  | .growth f s ps => .tuple [.str "growth", .int (f : Nat), .int (s : Nat), .tuple (ps.map ePick)]
def eReaO : Option Rea → PD
  | none => .none
  | some x => eRea x
def missRow (i : Nat) (row : List Rng) : Option Rea := row.zipIdx.findSome? fun p => if p.1.isNone then some (.num i p.2) else none
def missingM (rs : List (List Rng)) : Option Rea := rs.zipIdx.findSome? fun p => missRow p.2 p.1
def fallAt (rs : List (List Rng)) (s k : Nat) : Option Rea := if highOf rs s k < (bestLow rs k s).1 then some (.opt k (bestLow rs k s).2 s) else none
def fallenM (n : Nat) (rs : List (List Rng)) : Option Rea := (List.range rs.length).findSome? fun s => (List.range n).findSome? fun k => fallAt rs s k
def lowsAt (n : Nat) (rs : List (List Rng)) (i : Nat) : List (Int × Nat) := (List.range n).map fun k => bestLow rs k i
def highsAt (n : Nat) (rs : List (List Rng)) (i : Nat) : List (Int × Nat) := (List.range n).map fun k => bestHigh rs k i
def sumAt (n : Nat) (rs : List (List Rng)) (p : Int × Nat) : Option Rea :=
  if p.1 < ((lowsAt n rs p.2).map (·.1)).sum then some (.low p.2 ((lowsAt n rs p.2).map (·.2)))
  else if ((highsAt n rs p.2).map (·.1)).sum < p.1 then some (.high p.2 ((highsAt n rs p.2).map (·.2))) else none
def bySumsM (n : Nat) (ts : List Int) (rs : List (List Rng)) : Option Rea := ts.zipIdx.findSome? (sumAt n rs)
def pickAt (rs : List (List Rng)) (s f k : Nat) : Option (Nat × Nat) := if (bestHigh rs k f).1 < (bestLow rs k s).1 then some ((bestLow rs k s).2, (bestHigh rs k f).2) else none
def sureAt (n : Nat) (rs : List (List Rng)) (s f : Nat) : Int := ((List.range n).map fun k => max 0 ((bestLow rs k s).1 - (bestHigh rs k f).1)).sum
def growAt (n : Nat) (ts : List Int) (rs : List (List Rng)) (s f : Nat) : Option Rea := if ts.getD s 0 - ts.getD f 0 < sureAt n rs s f then some (.growth f s ((List.range n).map fun k => pickAt rs s f k)) else none
def byGrowthM (n : Nat) (ts : List Int) (rs : List (List Rng)) : Option Rea := (List.range ts.length).findSome? fun s => (List.range s).findSome? fun f => growAt n ts rs s f
def orM (a b : Option Rea) : Option Rea := match a with
  | some x => some x
  | none => b
def reasonM (n : Nat) (ts : List Int) (rs : List (List Rng)) : Option Rea := match missingM rs with
  | some x => some x
  | none => orM (fallenM n rs) (orM (bySumsM n ts rs) (byGrowthM n ts rs))
/-! ### no reason: a history -/
variable {m n : Nat} {ts : List Int} {rs : List (List Rng)}
theorem missing_none : missingM rs = none ↔ hasNone rs = false := by
  unfold missingM hasNone
  rw [List.findSome?_eq_none_iff, List.any_eq_false]
  constructor
  · intro h row hr
    obtain ⟨i, hi⟩ := List.mem_iff_getElem?.mp hr
    have hm : (row, i) ∈ rs.zipIdx := List.mem_iff_getElem?.mpr ⟨i, by rw [List.getElem?_zipIdx, hi]; simp⟩
    have := h _ hm
    unfold missRow at this
    rw [List.findSome?_eq_none_iff] at this
    intro hz
    obtain ⟨x, hx, hxn⟩ := List.any_eq_true.mp hz
    obtain ⟨k, hk⟩ := List.mem_iff_getElem?.mp hx
    have hm2 : (x, k) ∈ row.zipIdx := List.mem_iff_getElem?.mpr ⟨k, by rw [List.getElem?_zipIdx, hk]; simp⟩
    have := this _ hm2
    rw [if_pos hxn] at this
    cases this
  · intro h p hp
    obtain ⟨j, hj⟩ := List.mem_iff_getElem?.mp hp
    rw [List.getElem?_zipIdx] at hj
    obtain ⟨row, h1, h2⟩ := Option.map_eq_some_iff.mp hj
    cases h2
    unfold missRow
    rw [List.findSome?_eq_none_iff]
    intro q hq
    obtain ⟨j2, hj2⟩ := List.mem_iff_getElem?.mp hq
    rw [List.getElem?_zipIdx] at hj2
    obtain ⟨x, h3, h4⟩ := Option.map_eq_some_iff.mp hj2
    cases h4
    have := h row (List.mem_of_getElem? h1)
    rw [if_neg]
    intro z
    exact this (List.any_eq_true.mpr ⟨x, List.mem_of_getElem? h3, z⟩)
theorem sum_range {f : Nat → Int} : ((List.range n).map f).sum = sumN n f := sum_rowF
theorem reason_none (z : Siz m n) (s : Shp m n rs) (ht : ts.length = m) : reasonM n ts rs = none ↔ fitsM ts rs = true := by
  have lu := s.un
  by_cases hn : hasNone rs = false
  · have m0 := missing_none.mpr hn
    have fe : fitsM ts rs = fitsP ts (unRs rs) := by unfold fitsM; rw [hn]; rfl
    rw [fe, fitsP_iff lu.1 lu.2 ht]
    have L : ∀ t k, t < m → k < n → mat (lowsM (unRs rs)) t k = (bestLow rs k t).1 := fun t k h1 h2 => by
      rw [low_lt lu.1 lu.2 h1 h2]
      obtain ⟨b1, b2, b3, _⟩ := bestLow_spec rs k t
      apply Int.le_antisymm
      · refine runG_max_le fun i hi => ?_
        rw [(s.mat1 (by omega) h2).1]
        exact b3 i hi
      · rw [b2]
        have := runG_max (f := mat ((unRs rs).map (·.map (·.1)))) (k := k) b1
        rw [(s.mat1 (by omega) h2).1] at this
        exact this
    have H : ∀ t k, t < m → k < n → mat (highsM (unRs rs)) t k = (bestHigh rs k t).1 := fun t k h1 h2 => by
      rw [high_lt lu.1 lu.2 h1 h2]
      have lr := s.rows
      obtain ⟨b0, b1, b2, b3, _⟩ := bestHigh_spec rs k t (by omega)
      have rev : ∀ u, u < m → mat ((unRs rs).reverse.map (·.map (·.2))) (m - 1 - u) k = highOf rs u k := fun u hu => by
        rw [mat_rev lu.1 hu, (s.mat1 hu h2).2]
        rfl
      apply Int.le_antisymm
      · rw [b2, ← rev _ (by omega)]
        exact runG_min (by omega)
      · refine runG_min_le fun i hi => ?_
        have := rev (m - 1 - i) (by omega)
        rw [show m - 1 - (m - 1 - i) = i by omega] at this
        rw [this]
        exact b3 _ (by omega) (by omega)
    have e0 : reasonM n ts rs = orM (fallenM n rs) (orM (bySumsM n ts rs) (byGrowthM n ts rs)) := by unfold reasonM; rw [m0]
    have orn : ∀ a b : Option Rea, orM a b = none ↔ a = none ∧ b = none := fun a b => by cases a <;> simp [orM]
    rw [e0, orn, orn]
    have lr := s.rows
    have F1 : fallenM n rs = none ↔ ∀ t k, t < m → k < n → (bestLow rs k t).1 ≤ highOf rs t k := by
      unfold fallenM
      rw [List.findSome?_eq_none_iff]
      constructor
      · intro h t k h1 h2
        have := h t (by rw [List.mem_range]; omega)
        rw [List.findSome?_eq_none_iff] at this
        have := this k (by rw [List.mem_range]; omega)
        unfold fallAt at this
        split at this
        · cases this
        · omega
      · intro h t h1
        rw [List.mem_range] at h1
        rw [List.findSome?_eq_none_iff]
        intro k h2
        rw [List.mem_range] at h2
        unfold fallAt
        rw [if_neg (by have := h t k (by omega) h2; omega)]
    have zi : ∀ (P : Int × Nat → Prop), (∀ p ∈ ts.zipIdx, P p) ↔ ∀ t, t < m → P (ts.getD t 0, t) := fun P => by
      constructor
      · intro h t h1
        refine h _ (List.mem_iff_getElem?.mpr ⟨t, ?_⟩)
        rw [List.getElem?_zipIdx, (getD_mem (l := ts) (d := 0) (show t < ts.length by omega)).2]
        simp
      · intro h p hp
        obtain ⟨j, hj⟩ := List.mem_iff_getElem?.mp hp
        rw [List.getElem?_zipIdx] at hj
        obtain ⟨x, h3, h4⟩ := Option.map_eq_some_iff.mp hj
        cases h4
        have hl := (List.getElem?_eq_some_iff.mp h3).1
        have := h j (by omega)
        rw [List.getD_eq_getElem?_getD, h3] at this
        rw [Nat.zero_add]
        exact this
    have F2 : bySumsM n ts rs = none ↔ ∀ t, t < m → sumN n (fun k => (bestLow rs k t).1) ≤ ts.getD t 0 ∧ ts.getD t 0 ≤ sumN n fun k => (bestHigh rs k t).1 := by
      unfold bySumsM
      rw [List.findSome?_eq_none_iff, zi]
      refine forall_congr' fun t => imp_congr_right fun h1 => ?_
      have q1 : ((lowsAt n rs t).map (·.1)).sum = sumN n fun k => (bestLow rs k t).1 := by unfold lowsAt; rw [List.map_map]; exact sum_range
      have q2 : ((highsAt n rs t).map (·.1)).sum = sumN n fun k => (bestHigh rs k t).1 := by unfold highsAt; rw [List.map_map]; exact sum_range
      unfold sumAt
      dsimp only
      rw [q1, q2]
      constructor
      · intro h
        split at h
        · cases h
        · split at h
          · cases h
          · omega
      · intro h
        rw [if_neg (by omega), if_neg (by omega)]
    have F3 : byGrowthM n ts rs = none ↔ ∀ t e, t < m → e < t → sumN n (fun k => max 0 ((bestLow rs k t).1 - (bestHigh rs k e).1)) ≤ ts.getD t 0 - ts.getD e 0 := by
      unfold byGrowthM
      rw [List.findSome?_eq_none_iff]
      constructor
      · intro h t e h1 h2
        have := h t (by rw [List.mem_range]; omega)
        rw [List.findSome?_eq_none_iff] at this
        have := this e (by rw [List.mem_range]; omega)
        unfold growAt sureAt at this
        rw [sum_range] at this
        split at this
        · cases this
        · omega
      · intro h t h1
        rw [List.mem_range] at h1
        rw [List.findSome?_eq_none_iff]
        intro e h2
        rw [List.mem_range] at h2
        unfold growAt sureAt
        rw [sum_range, if_neg (by have := h t e (by omega) h2; omega)]
    rw [F1, F2, F3]
    constructor
    · rintro ⟨a, b, c⟩
      refine ⟨fun t k h1 h2 => ?_, fun t h1 => ?_, fun t h1 => ?_, fun t e h1 h2 => ?_⟩
      · rw [L t k h1 h2, H t k h1 h2]
        obtain ⟨b0, b1, b2, _⟩ := bestHigh_spec rs k t (by omega)
        obtain ⟨c1, c2, _⟩ := bestLow_spec rs k t
        rw [c2, b2]
        have := a (bestHigh rs k t).2 k (by omega) h2
        exact Int.le_trans ((bestLow_spec rs k (bestHigh rs k t).2).2.2.1 _ (by omega)) this
      · rw [sumN_eq fun k hk => L t k h1 hk]; exact (b t h1).1
      · rw [sumN_eq fun k hk => H t k h1 hk]; exact (b t h1).2
      · rw [sumN_eq (g := fun k => max 0 ((bestLow rs k t).1 - (bestHigh rs k e).1)) fun k hk => by rw [L t k h1 hk, H e k (by omega) hk]]
        exact c t e h1 h2
    · intro C
      refine ⟨fun t k h1 h2 => ?_, fun t h1 => ⟨?_, ?_⟩, fun t e h1 h2 => ?_⟩
      · have := C.lh t k h1 h2
        rw [L t k h1 h2, H t k h1 h2] at this
        exact Int.le_trans this ((bestHigh_spec rs k t (by omega)).2.2.2.1 t (Nat.le_refl _) (by omega))
      · have := C.low t h1
        rwa [sumN_eq fun k hk => L t k h1 hk] at this
      · have := C.high t h1
        rwa [sumN_eq fun k hk => H t k h1 hk] at this
      · have := C.grow t e h1 h2
        rwa [sumN_eq (g := fun k => max 0 ((bestLow rs k t).1 - (bestHigh rs k e).1)) fun k hk => by rw [L t k h1 hk, H e k (by omega) hk]] at this
  · have hn : hasNone rs = true := by cases h : hasNone rs <;> simp_all
    have f0 : fitsM ts rs = false := by unfold fitsM; rw [hn]; rfl
    rw [f0]
    constructor
    · intro h
      exfalso
      unfold reasonM at h
      cases q : missingM rs with
      | none => rw [missing_none.mp q] at hn; cases hn
      | some x => rw [q] at h; cases h
    · intro h; cases h
end Pj

set_option Elab.async false
set_option linter.all false
set_option maxRecDepth 100000
/-! Qm: is_reason. -/
namespace Pj
open PySem PySem.Spec PyProof.Rows L2
def endV (rs : List (List Rng)) (place : PD) (k : Nat) (hi : Bool) : Option Int := (rAt rs (toI place).toNat k).map fun p => if hi then p.2 else p.1
def isOptR (m n : Nat) (rs : List (List Rng)) (a b c : PD) : Bool := isI a 0 (n - 1) && (isI b 0 (m - 1) && (isI c (toI b + 1) (m - 1) && (match endV rs b (toI a).toNat false, endV rs c (toI a).toNat true with
  | some x, some y => decide (y < x)
  | _, _ => false)))
def arePlaces (many : Nat) (lo hi : Int) (opt : Bool) : PD → Bool
  | .tuple ds => decide (ds.length = many) && ds.all fun d => opt && isN d || isI d lo hi
  | _ => false
def endsOf (rs : List (List Rng)) (hi : Bool) (ds : List PD) : List (Option Int) := (ds.zipIdx.filter fun p => !isN p.1).map fun p => endV rs p.1 p.2 hi
def itemsT : PD → List PD
  | .tuple ds => ds
  | _ => []
def sumOk (t : Int) (low : Bool) (es : List (Option Int)) : Bool := !(es.any Option.isNone) && (if low then decide (t < (es.map (·.getD 0)).sum) else decide ((es.map (·.getD 0)).sum < t))
def isSumR (m n : Nat) (ts : List Int) (rs : List (List Rng)) (low : Bool) (a p : PD) : Bool := isI a 0 (m - 1) && (arePlaces n (if low then 0 else toI a) (if low then toI a else m - 1) low p && sumOk (ts.getD (toI a).toNat 0) low (endsOf rs (!low) (itemsT p)))
def okG (m : Nat) (rs : List (List Rng)) (f s : Int) (_ : Int) (p : PD × Nat) : Bool := match p.1 with
  | .none => true
  | .tuple [x, y] => isI x 0 s && (isI y f (m - 1) && ((endV rs x p.2 false).isSome && (endV rs y p.2 true).isSome))
  | _ => false
def hG (rs : List (List Rng)) (p : PD × Nat) : Int := match p.1 with
  | .tuple [x, y] => (endV rs x p.2 false).getD 0 - (endV rs y p.2 true).getD 0
  | _ => 0
def nxtG (rs : List (List Rng)) (sure : Int) (p : PD × Nat) : Int := sure + hG rs p
def isGrowR (m n : Nat) (ts : List Int) (rs : List (List Rng)) (a b : PD) : PD → Bool
  | .tuple ds => isI a 0 (m - 1) && (isI b (toI a + 1) (m - 1) && (decide (ds.length = n) && (runOk (okG m rs (toI a) (toI b)) (nxtG rs) 0 ds.zipIdx && decide (ts.getD (toI b).toNat 0 - ts.getD (toI a).toNat 0 < ds.zipIdx.foldl (nxtG rs) 0))))
  | _ => false
def isReaW (m n : Nat) (ts : List Int) (rs : List (List Rng)) (w : Str) (rest : List PD) : Bool :=
  if w == ("number" : Str) then (match rest with
    | [a, b] => isI a 0 (m - 1) && (isI b 0 (n - 1) && (rAt rs (toI a).toNat (toI b).toNat).isNone)
    | _ => false)
  else if w == ("option" : Str) then (match rest with
    | [a, b, c] => isOptR m n rs a b c
    | _ => false)
  else if w == ("low" : Str) || w == ("high" : Str) then (match rest with
    | [a, p] => isSumR m n ts rs (w == ("low" : Str)) a p
    | _ => false)
  else if w == ("growth" : Str) then (match rest with
    | [a, b, p] => isGrowR m n ts rs a b p
    | _ => false)
  else false
def isReaM (m n : Nat) (ts : List Int) (rs : List (List Rng)) : PD → Bool
  | .tuple (.str w :: rest) => isReaW m n ts rs w rest
  | _ => false
variable {m n : Nat} {ts : List Int} {rs : List (List Rng)}
/-! ### a reason leaves no history -/
theorem isI_is {d : PD} {lo hi : Int} (h : isI d lo hi = true) : d = .int (toI d) ∧ lo ≤ toI d ∧ toI d ≤ hi := by
  obtain ⟨i, rfl, h1, h2⟩ := isI_elim h
  exact ⟨rfl, h1, h2⟩
theorem HistF.mono {v : Nat → Nat → Int} (hv : HistF m n ts rs v) {t u k : Nat} (h : t ≤ u) (hu : u < m) (hk : k < n) : v t k ≤ v u k := by
  induction h with
  | refl => exact Int.le_refl _
  | step h ih => exact Int.le_trans (ih (by omega)) (hv.up _ k hu hk)
theorem endV_lo {v : Nat → Nat → Int} (hv : HistF m n ts rs v) {d : PD} {k : Nat} {x : Int} (h : endV rs d k false = some x) (hd : (toI d).toNat < m) (hk : k < n) : x ≤ v (toI d).toNat k := by
  obtain ⟨p, hp, h1, _⟩ := hv.inr _ k hd hk
  unfold endV at h
  rw [hp] at h
  cases h
  exact h1
theorem endV_hi {v : Nat → Nat → Int} (hv : HistF m n ts rs v) {d : PD} {k : Nat} {x : Int} (h : endV rs d k true = some x) (hd : (toI d).toNat < m) (hk : k < n) : v (toI d).toNat k ≤ x := by
  obtain ⟨p, hp, _, h1⟩ := hv.inr _ k hd hk
  unfold endV at h
  rw [hp] at h
  cases h
  exact h1
theorem sum_zip (g : PD × Nat → Int) : ∀ (ds : List PD) (k0 : Nat), ((ds.zipIdx k0).map g).sum = sumN ds.length fun k => g (ds.getD k .none, k0 + k)
  | [], _ => rfl
  | d :: ds, k0 => by
    rw [List.zipIdx_cons, List.map_cons, List.sum_cons, sum_zip g ds (k0 + 1), List.length_cons, sumN_head]
    congr 1
    refine sumN_eq fun k _ => ?_
    rw [show k0 + 1 + k = k0 + (k + 1) by omega]
    rfl
theorem sum_zipF (g : PD × Nat → Int) : ∀ (ds : List PD) (k0 : Nat), (((ds.zipIdx k0).filter fun p => !isN p.1).map g).sum = sumN ds.length fun k => if isN (ds.getD k .none) then 0 else g (ds.getD k .none, k0 + k)
  | [], _ => rfl
  | d :: ds, k0 => by
    rw [List.zipIdx_cons, List.length_cons, sumN_head]
    have e : (sumN ds.length fun k => if isN ((d :: ds).getD (k + 1) .none) then 0 else g ((d :: ds).getD (k + 1) .none, k0 + (k + 1))) = sumN ds.length fun k => if isN (ds.getD k .none) then 0 else g (ds.getD k .none, k0 + 1 + k) := sumN_eq fun k _ => by
      rw [show k0 + 1 + k = k0 + (k + 1) by omega]
      rfl
    rw [e, ← sum_zipF g ds (k0 + 1)]
    show _ = (if isN d then 0 else g (d, k0 + 0)) + _
    cases h : isN d with
    | true => rw [List.filter_cons_of_neg (by rw [h]; decide), if_pos rfl]; omega
    | false => rw [List.filter_cons_of_pos (by rw [h]; rfl), List.map_cons, List.sum_cons, if_neg Bool.false_ne_true]; rfl
theorem ends_some {hi : Bool} {ds : List PD} (h : (endsOf rs hi ds).any Option.isNone = false) {k : Nat} (hk : k < ds.length) (hn : isN (ds.getD k .none) = false) : ∃ x, endV rs (ds.getD k .none) k hi = some x := by
  have hm : (ds.getD k .none, k) ∈ ds.zipIdx.filter fun p => !isN p.1 := by
    rw [List.mem_filter]
    refine ⟨List.mem_iff_getElem?.mpr ⟨k, ?_⟩, by rw [hn]; rfl⟩
    rw [List.getElem?_zipIdx, (getD_mem (l := ds) (d := PyData.none) hk).2]
    simp
  rw [List.any_eq_false] at h
  have := h (endV rs (ds.getD k .none) k hi) (List.mem_map.mpr ⟨_, hm, rfl⟩)
  cases e : endV rs (ds.getD k .none) k hi with
  | none => rw [e] at this; exact absurd rfl this
  | some x => exact ⟨x, rfl⟩
theorem foldl_nxt : ∀ (l : List (PD × Nat)) (s : Int), l.foldl (nxtG rs) s = s + (l.map (hG rs)).sum
  | [], s => by simp
  | a :: l, s => by rw [List.foldl_cons, foldl_nxt l, List.map_cons, List.sum_cons]; unfold nxtG; omega
theorem run_all {f s : Int} : ∀ (l : List (PD × Nat)) (z : Int), runOk (okG m rs f s) (nxtG rs) z l = l.all (okG m rs f s 0)
  | [], _ => rfl
  | a :: l, z => by
    show (okG m rs f s z a && runOk _ _ _ l) = _
    rw [run_all l, List.all_cons]
    rfl
theorem rea_no (z : Siz m n) (ht : ts.length = m) (hneg : NonNeg m n rs) {d : PD} (h : isReaM m n ts rs d = true) {v : Nat → Nat → Int} (hv : HistF m n ts rs v) : False := by
  have m1 := z.m1
  have n1 := z.n1
  have pos : ∀ t k, t < m → k < n → 0 ≤ v t k := fun t k h1 h2 => by
    obtain ⟨p, hp, p1, _⟩ := hv.inr t k h1 h2
    have := hneg t k p h1 h2 hp
    omega
  match d, h with
  | .tuple (.str w :: rest), h =>
    have h : isReaW m n ts rs w rest = true := h
    unfold isReaW at h
    split at h
    · match rest, h with
      | [a, b], h =>
        have h : (isI a 0 (m - 1) && (isI b 0 (n - 1) && (rAt rs (toI a).toNat (toI b).toNat).isNone)) = true := h
        rw [Bool.and_eq_true, Bool.and_eq_true] at h
        obtain ⟨_, a1, a2⟩ := isI_is h.1
        obtain ⟨_, b1, b2⟩ := isI_is h.2.1
        obtain ⟨p, hp, _⟩ := hv.inr (toI a).toNat (toI b).toNat (by omega) (by omega)
        rw [hp] at h
        cases h.2.2
    · split at h
      · match rest, h with
        | [a, b, c], h =>
          have h : isOptR m n rs a b c = true := h
          unfold isOptR at h
          rw [Bool.and_eq_true, Bool.and_eq_true, Bool.and_eq_true] at h
          obtain ⟨h1, h2, h3, h4⟩ := h
          obtain ⟨_, a1, a2⟩ := isI_is h1
          obtain ⟨_, b1, b2⟩ := isI_is h2
          obtain ⟨_, c1, c2⟩ := isI_is h3
          split at h4
          · rename_i x y e1 e2
            rw [decide_eq_true_eq] at h4
            have l := endV_lo hv e1 (by omega) (by omega)
            have u := endV_hi hv e2 (by omega) (by omega)
            have := hv.mono (t := (toI b).toNat) (u := (toI c).toNat) (k := (toI a).toNat) (by omega) (by omega) (by omega)
            omega
          · cases h4
      · split at h
        · match rest, h with
          | [a, p], h =>
            have h : isSumR m n ts rs (w == ("low" : Str)) a p = true := h
            generalize (w == ("low" : Str)) = low at h
            unfold isSumR at h
            rw [Bool.and_eq_true, Bool.and_eq_true] at h
            obtain ⟨h1, h2, h3⟩ := h
            obtain ⟨_, a1, a2⟩ := isI_is h1
            match p, h2, h3 with
            | .tuple ds, h2, h3 =>
              have h2 : (decide (ds.length = n) && ds.all fun d => low && isN d || isI d (if low then 0 else toI a) (if low then toI a else m - 1)) = true := h2
              have h3 : sumOk (ts.getD (toI a).toNat 0) low (endsOf rs (!low) ds) = true := h3
              rw [Bool.and_eq_true, decide_eq_true_eq, List.all_eq_true] at h2
              unfold sumOk at h3
              rw [Bool.and_eq_true, Bool.not_eq_true'] at h3
              have es : ((endsOf rs (!low) ds).map (·.getD 0)).sum = sumN n fun k => if isN (ds.getD k .none) then 0 else (endV rs (ds.getD k .none) k (!low)).getD 0 := by
                unfold endsOf
                rw [List.map_map, ← h2.1]
                have := sum_zipF (fun p => (endV rs p.1 p.2 (!low)).getD 0) ds 0
                rw [show (fun k => if isN (ds.getD k .none) then 0 else (endV rs (ds.getD k .none) k (!low)).getD 0) = fun k => if isN (ds.getD k .none) then 0 else (endV rs (ds.getD k .none) (0 + k) (!low)).getD 0 from funext fun k => by rw [Nat.zero_add]]
                exact this
              rw [es] at h3
              have T := hv.sum (toI a).toNat (by omega)
              have item : ∀ k, k < n → low = true ∧ isN (ds.getD k .none) = true ∨ isI (ds.getD k .none) (if low then 0 else toI a) (if low then toI a else m - 1) = true := fun k hk => by
                have := h2.2 _ (getD_mem (l := ds) (d := PyData.none) (show k < ds.length by omega)).1
                rwa [Bool.or_eq_true, Bool.and_eq_true] at this
              cases low with
              | true =>
                rw [if_pos rfl, decide_eq_true_eq] at h3
                have := sumN_le (n := n) (f := fun k => if isN (ds.getD k .none) then 0 else (endV rs (ds.getD k .none) k (!true)).getD 0) (g := v (toI a).toNat) fun k hk => by
                  split
                  · exact pos _ _ (by omega) hk
                  · rename_i nn
                    rcases item k hk with q | q
                    · exact absurd q.2 nn
                    · obtain ⟨_, q1, q2⟩ := isI_is q
                      rw [if_pos rfl] at q1 q2
                      obtain ⟨x, ex⟩ := ends_some (k := k) h3.1 (by omega) (by simpa using nn)
                      rw [ex]
                      have := endV_lo hv ex (by omega) hk
                      exact Int.le_trans this (hv.mono (by omega) (by omega) hk)
                omega
              | false =>
                rw [if_neg Bool.false_ne_true, decide_eq_true_eq] at h3
                have := sumN_le (n := n) (g := fun k => if isN (ds.getD k .none) then 0 else (endV rs (ds.getD k .none) k (!false)).getD 0) (f := v (toI a).toNat) fun k hk => by
                  rcases item k hk with q | q
                  · cases q.1
                  · obtain ⟨q0, q1, q2⟩ := isI_is q
                    rw [if_neg Bool.false_ne_true] at q1 q2
                    have nn : isN (ds.getD k .none) = false := by rw [q0]; rfl
                    rw [nn, if_neg Bool.false_ne_true]
                    obtain ⟨x, ex⟩ := ends_some (k := k) h3.1 (by omega) nn
                    rw [ex]
                    have := endV_hi hv ex (by omega) hk
                    exact Int.le_trans (hv.mono (by omega) (by omega) hk) this
                omega
        · split at h
          · match rest, h with
            | [a, b, p], h =>
              have h : isGrowR m n ts rs a b p = true := h
              match p, h with
              | .tuple ds, h =>
                have h : (isI a 0 (m - 1) && (isI b (toI a + 1) (m - 1) && (decide (ds.length = n) && (runOk (okG m rs (toI a) (toI b)) (nxtG rs) 0 ds.zipIdx && decide (ts.getD (toI b).toNat 0 - ts.getD (toI a).toNat 0 < ds.zipIdx.foldl (nxtG rs) 0))))) = true := h
                rw [Bool.and_eq_true, Bool.and_eq_true, Bool.and_eq_true, Bool.and_eq_true, decide_eq_true_eq, decide_eq_true_eq, run_all, List.all_eq_true, foldl_nxt, Int.zero_add, sum_zip] at h
                obtain ⟨h1, h2, h3, h4, h5⟩ := h
                obtain ⟨_, a1, a2⟩ := isI_is h1
                obtain ⟨_, b1, b2⟩ := isI_is h2
                rw [h3] at h5
                have T1 := hv.sum (toI a).toNat (by omega)
                have T2 := hv.sum (toI b).toNat (by omega)
                have := sumN_le (n := n) (f := fun k => hG rs (ds.getD k .none, 0 + k)) (g := fun k => v (toI b).toNat k - v (toI a).toNat k) fun k hk => by
                  rw [Nat.zero_add]
                  have up := hv.mono (t := (toI a).toNat) (u := (toI b).toNat) (k := k) (by omega) (by omega) hk
                  have hm : (ds.getD k .none, k) ∈ ds.zipIdx := List.mem_iff_getElem?.mpr ⟨k, by
                    rw [List.getElem?_zipIdx, (getD_mem (l := ds) (d := PyData.none) (show k < ds.length by omega)).2]
                    simp⟩
                  have q := h4 _ hm
                  generalize ds.getD k .none = x at *
                  unfold hG
                  dsimp only
                  split
                  · rename_i u y
                    have q : (isI u 0 (toI b) && (isI y (toI a) (m - 1) && ((endV rs u k false).isSome && (endV rs y k true).isSome))) = true := q
                    rw [Bool.and_eq_true, Bool.and_eq_true, Bool.and_eq_true] at q
                    obtain ⟨q1, q2, q3, q4⟩ := q
                    obtain ⟨_, u1, u2⟩ := isI_is q1
                    obtain ⟨_, y1, y2⟩ := isI_is q2
                    obtain ⟨lo, el⟩ := Option.isSome_iff_exists.mp q3
                    obtain ⟨hi, eh⟩ := Option.isSome_iff_exists.mp q4
                    rw [el, eh]
                    have g1 := endV_lo hv el (by omega) hk
                    have g2 := endV_hi hv eh (by omega) hk
                    have g3 := hv.mono (t := (toI u).toNat) (u := (toI b).toNat) (k := k) (by omega) (by omega) hk
                    have g4 := hv.mono (t := (toI a).toNat) (u := (toI y).toNat) (k := k) (by omega) (by omega) hk
                    show lo - hi ≤ _
                    omega
                  · omega
                rw [sumN_sub] at this
                omega
          · cases h
end Pj

set_option Elab.async false
set_option linter.all false
set_option maxRecDepth 100000
/-! Qn: promises of reasons.py; x or y; loops that carry a state to their end. -/
namespace Pj
open PySem PySem.Spec PyProof.Rows L2
section
variable {X : Cx} {W : WX} {lv : Nat} {a b : Expr} {es : List Expr} {ρ ρ1 : En} {d d' : PD} {pos : Pos}
theorem truV_of {K : PySem.W.Frag} {F H : Hp} {v : V} (h : Dp K F v d) (e : Same F H) (hd : truOk d = true) : TruV K v H (truP d) := by
  cases h with
  | non => rfl
  | bl b => rfl
  | int i => rfl
  | str s => cases hd
  | lst hs ha => exact .inl ⟨_, Same.seq e hs, by rw [DpAll.isEmpty ha]; rfl⟩
  | tup hs ha => exact .inr (.inl ⟨_, Same.seqT e hs, by rw [DpAll.isEmpty ha]; rfl⟩)
/-- a or b, the first where it is true -/
theorem ej_orT (h : EJ X W a ρ (.ok ρ (.va d))) (hd : truOk d = true) (ht : truP d = true) : EJ X W (.BoolOp .Or (a :: b :: es) pos) ρ (.ok ρ (.va d)) := by
  obtain ⟨t, h1, h2⟩ := h
  refine ⟨_, pe_orT h1 (pe_never (e := .BoolOp .Or (b :: es) pos)), fun F H σ Q R q => h2 F H σ _ R fun F1 H1 v1 x1 R1 q1 => ?_⟩
  refine ⟨true, by rw [← ht]; exact truV_of q1.1 R1.fh hd, ?_⟩
  rw [if_pos rfl]
  exact (q.pull x1).fin R1 (Xt.refl R1.fh) q1.1
theorem ej_orF (h : EJ X W a ρ (.ok ρ (.va d))) (hd : truOk d = true) (ht : truP d = false) (g : EJ X W (.BoolOp .Or (b :: es) pos) ρ (.ok ρ (.va d'))) : EJ X W (.BoolOp .Or (a :: b :: es) pos) ρ (.ok ρ (.va d')) := by
  obtain ⟨t, h1, h2⟩ := h
  obtain ⟨u, g1, g2⟩ := g
  refine ⟨_, pe_orT h1 g1, fun F H σ Q R q => h2 F H σ _ R fun F1 H1 v1 x1 R1 q1 => ?_⟩
  refine ⟨false, by rw [← ht]; exact truV_of q1.1 R1.fh hd, ?_⟩
  rw [if_neg Bool.false_ne_true]
  exact g2 F1 H1 σ Q R1 (q.pull x1)
end
section
variable {X : Cx} {W : WX} {lv : Nat} {body rest : List Stmt} {ρ ρ1 : En} {r0 : Rs} {po : PO} {tg iter : Expr} {pos : Pos} {sh : TgS} {items : List PD} {α S : Type}
theorem forJ_runF (E : S → En) (ok : S → α → Bool) (nxt : S → α → S) (en : α → PD) : ∀ (l : List α) (s0 : S),
    (∀ a s, a ∈ l → ∃ ρt, tgSet sh (en a) (E s) = some ρt ∧ SrJ X W body ρt (E (nxt s a)) (if ok s a then none else some r0)) →
    (runOk ok nxt s0 l = true → ForJ X W sh body (l.map en) (E s0) (.nx (E (l.foldl nxt s0)))) ∧ (runOk ok nxt s0 l = false → ∃ ρ', ForJ X W sh body (l.map en) (E s0) (.rt ρ' r0))
  | [], s0, _ => ⟨fun _ => .nil, fun h => by cases h⟩
  | a :: l, s0, turn => by
    obtain ⟨ρt, h1, h2⟩ := turn a s0 List.mem_cons_self
    obtain ⟨i1, i2⟩ := forJ_runF E ok nxt en l (nxt s0 a) fun b s hb => turn b s (List.mem_cons_of_mem _ hb)
    have e : runOk ok nxt s0 (a :: l) = (ok s0 a && runOk ok nxt (nxt s0 a) l) := rfl
    rw [e]
    cases c : ok s0 a with
    | true =>
      rw [c, if_pos rfl] at h2
      rw [Bool.true_and]
      refine ⟨fun h => .nx h1 h2 (i1 h), fun h => ?_⟩
      obtain ⟨ρ', g⟩ := i2 h
      exact ⟨ρ', .nx h1 h2 g⟩
    | false =>
      rw [c, if_neg Bool.false_ne_true] at h2
      refine ⟨fun h => (by cases h), fun _ => ?_⟩
      obtain ⟨ρ', g⟩ := h2
      exact ⟨ρ', .rt h1 g⟩
theorem fj_runF (E : S → En) (ok : S → α → Bool) (nxt : S → α → S) (l : List α) (en : α → PD) (s0 : S) (C : Ok X W lv) (hi : ItJ X W tg iter ρ (E s0) items) (he : items = l.map en) (hg : PG X tg (gOf X.K sh))
    (turn : ∀ a s, a ∈ l → ∃ ρt, tgSet sh (en a) (E s) = some ρt ∧ SrJ X W body ρt (E (nxt s a)) (if ok s a then none else some r0))
    (h1 : runOk ok nxt s0 l = true → FJ X W rest (E (l.foldl nxt s0)) po) (h2 : runOk ok nxt s0 l = false → po = .ok r0) (hs : ∀ x, foldedSetIterable iter X.env x = pure x := by intro _; rfl) : FJ X W (.For tg iter body [] pos :: rest) ρ po := by
  subst he
  obtain ⟨i1, i2⟩ := forJ_runF (X := X) (W := W) (body := body) (r0 := r0) (sh := sh) E ok nxt en l s0 turn
  cases c : runOk ok nxt s0 l with
  | true => exact fj_st (sj_for C hi hg (i1 c) hs) (h1 c)
  | false =>
    obtain ⟨ρ', g⟩ := i2 c
    exact fj_st (sj_for C hi hg g hs) (h2 c)
end
/-! ### promises -/
structure Rgs (m n : Nat) (ts : List Int) (rs : List (List Rng)) : Prop where
  siz : Siz m n
  shp : Shp m n rs
  len : ts.length = m
def M_best_low (ds : List PD) (o : PO) : Prop := ∃ (m n : Nat) (rs : List (List Rng)) (k i : Nat), Siz m n ∧ Shp m n rs ∧ hasNone rs = false ∧ k < n ∧ i < m ∧ ds = [eRngs rs, .int k, .int i] ∧ o = .ok (.va (.tuple [.int (bestLow rs k i).1, .int ((bestLow rs k i).2 : Nat)]))
def M_best_high (ds : List PD) (o : PO) : Prop := ∃ (m n : Nat) (rs : List (List Rng)) (k i : Nat), Siz m n ∧ Shp m n rs ∧ hasNone rs = false ∧ k < n ∧ i < m ∧ ds = [eRngs rs, .int k, .int i] ∧ o = .ok (.va (.tuple [.int (bestHigh rs k i).1, .int ((bestHigh rs k i).2 : Nat)]))
def M_missing (ds : List PD) (o : PO) : Prop := ∃ (m n : Nat) (rs : List (List Rng)), Siz m n ∧ Shp m n rs ∧ ds = [eRngs rs] ∧ o = .ok (.va (eReaO (missingM rs)))
def M_fallen (ds : List PD) (o : PO) : Prop := ∃ (m n : Nat) (rs : List (List Rng)), Siz m n ∧ Shp m n rs ∧ hasNone rs = false ∧ ds = [eRngs rs] ∧ o = .ok (.va (eReaO (fallenM n rs)))
def M_by_sums (ds : List PD) (o : PO) : Prop := ∃ (m n : Nat) (ts : List Int) (rs : List (List Rng)), Rgs m n ts rs ∧ hasNone rs = false ∧ ds = [eRngs rs, eTots ts] ∧ o = .ok (.va (eReaO (bySumsM n ts rs)))
def M_by_growth (ds : List PD) (o : PO) : Prop := ∃ (m n : Nat) (ts : List Int) (rs : List (List Rng)), Rgs m n ts rs ∧ hasNone rs = false ∧ ds = [eRngs rs, eTots ts] ∧ o = .ok (.va (eReaO (byGrowthM n ts rs)))
def reaS (r : Ru) (n : Nat) (ss : List Shot) : Option Rea := reasonM n (tots ss) (rngs r ss)
def isReaS (r : Ru) (n : Nat) (ss : List Shot) (v : PD) : Bool := isReaM ss.length n (tots ss) (rngs r ss) v
def M_reason_for (ds : List PD) (o : PO) : Prop := ∃ (r : Ru) (n : Nat) (ss : List Shot), GoodS r n ss ∧ ds = [eRu r, eShots ss] ∧ o = .ok (.va (eReaO (reaS r n ss)))
def M_reason (ds : List PD) (o : PO) : Prop := ∃ d v, ds = [d, v] ∧ Args2 d v o fun r n ss _ => o = .ok (.va (eReaO (reaS r n ss)))
def M_are_places (ds : List PD) (o : PO) : Prop := ∃ (v : PD) (many : Nat) (lo hi : Int) (opt : Bool), many ≤ 100 ∧ ds = [v, .int many, .int lo, .int hi, .bool opt] ∧ o = .ok (.va (.bool (arePlaces many lo hi opt v)))
def M_end_at (ds : List PD) (o : PO) : Prop := ∃ (m n : Nat) (rs : List (List Rng)) (i k : Nat) (hi : Bool), Siz m n ∧ Shp m n rs ∧ i < m ∧ k < n ∧ ds = [eRngs rs, .int i, .int k, .int (if hi then 1 else 0)] ∧ o = .ok (.va (eOI ((rAt rs i k).map fun p => if hi then p.2 else p.1)))
def optRest (m n : Nat) (rs : List (List Rng)) : List PD → Bool
  | [a, b, c] => isOptR m n rs a b c
  | _ => false
def sumRest (m n : Nat) (ts : List Int) (rs : List (List Rng)) (low : Bool) : List PD → Bool
  | [a, p] => isSumR m n ts rs low a p
  | _ => false
def growRest (m n : Nat) (ts : List Int) (rs : List (List Rng)) : List PD → Bool
  | [a, b, p] => isGrowR m n ts rs a b p
  | _ => false
def M_is_by_option (ds : List PD) (o : PO) : Prop := ∃ (m n : Nat) (rs : List (List Rng)) (w : Str) (rest : List PD), Siz m n ∧ Shp m n rs ∧ ds = [eRngs rs, .tuple (.str w :: rest)] ∧ o = .ok (.va (.bool (optRest m n rs rest)))
def M_is_by_sum (ds : List PD) (o : PO) : Prop := ∃ (m n : Nat) (ts : List Int) (rs : List (List Rng)) (w : Str) (rest : List PD), Rgs m n ts rs ∧ SeqAt.shaped (.str w) = true ∧ ds = [eRngs rs, eTots ts, .tuple (.str w :: rest)] ∧ o = .ok (.va (.bool (sumRest m n ts rs (w == ("low" : Str)) rest)))
def M_is_by_growth (ds : List PD) (o : PO) : Prop := ∃ (m n : Nat) (ts : List Int) (rs : List (List Rng)) (w : Str) (rest : List PD), Rgs m n ts rs ∧ ds = [eRngs rs, eTots ts, .tuple (.str w :: rest)] ∧ o = .ok (.va (.bool (growRest m n ts rs rest)))
/-- the word of a reason is one that Python can hold -/
def wordOk (x : PD) : Prop := ∀ w rest, x = .tuple (.str w :: rest) → SeqAt.shaped (.str w) = true
def M_is_reason (ds : List PD) (o : PO) : Prop := ∃ d v x, wordOk x ∧ ds = [d, v, x] ∧ Args2 d v o fun r n ss _ => o = .ok (.va (.bool (isReaS r n ss x)))
section
variable {r : Ru} {n : Nat} {ss : List Shot}
theorem GoodS.rgs (G : GoodS r n ss) : Rgs ss.length n (tots ss) (rngs r ss) := ⟨G.siz, G.shp, by unfold tots; rw [List.length_map]⟩
theorem m_reason_for (G : GoodS r n ss) : M_reason_for [eRu r, eShots ss] (.ok (.va (eReaO (reaS r n ss)))) := ⟨r, n, ss, G, rfl, rfl⟩
theorem m_reason (G : GoodS r n ss) : M_reason [eRu r, eShots ss] (.ok (.va (eReaO (reaS r n ss)))) := ⟨_, _, rfl, .inr (.inr ⟨r, n, ss, G, rfl, rfl, rfl⟩)⟩
theorem m_is_reason (G : GoodS r n ss) {v : PD} (h : wordOk v) : M_is_reason [eRu r, eShots ss, v] (.ok (.va (.bool (isReaS r n ss v)))) := ⟨_, _, _, h, rfl, .inr (.inr ⟨r, n, ss, G, rfl, rfl, rfl⟩)⟩
theorem reaS_none (G : GoodS r n ss) : reaS r n ss = none ↔ fitS r ss = true := reason_none G.siz G.shp (by unfold tots; rw [List.length_map])
theorem isReaS_no (G : GoodS r n ss) {v : PD} (h : isReaS r n ss v = true) : fitS r ss = false := by
  cases f : fitS r ss with
  | false => rfl
  | true =>
    obtain ⟨w, hw⟩ := (fits_iff G.shp (by unfold tots; rw [List.length_map])).mp f
    exact (rea_no G.siz (by unfold tots; rw [List.length_map]) G.neg h hw).elim
end
section
variable {m n : Nat} {rs : List (List Rng)}
theorem truR (x : Rea) : truOk (eRea x) = true ∧ truP (eRea x) = true := by cases x <;> exact ⟨rfl, rfl⟩
theorem Shp.no (s : Shp m n rs) (h : hasNone rs = false) {i k : Nat} (hi : i < m) (hk : k < n) : ∃ p, rAt rs i k = some p ∧ lowOf rs i k = p.1 ∧ highOf rs i k = p.2 := by
  obtain ⟨p, hp⟩ := s.none_at h hi hk
  exact ⟨p, hp, by unfold lowOf; rw [hp]; rfl, by unfold highOf; rw [hp]; rfl⟩
theorem Shp.ats (s : Shp m n rs) {i k : Nat} (hi : i < m) (hk : k < n) : atI (rs.map eRow) (i : Int) = some (eRow (rs.getD i [])) ∧ atI ((rs.getD i []).map eOp) (k : Int) = some (eOp (rAt rs i k)) :=
  ⟨at_map (by rw [s.rows]; exact hi), atI_nat (by rw [List.getElem?_map, s.at hi hk]; rfl)⟩
theorem sh_low : SeqAt.shaped (.str "low") = true := by decide +kernel
theorem sh_words : SeqAt.shaped (.str "number") = true ∧ SeqAt.shaped (.str "option") = true ∧ SeqAt.shaped (.str "low") = true ∧ SeqAt.shaped (.str "high") = true ∧ SeqAt.shaped (.str "growth") = true := by decide +kernel
theorem word_rea (x : Rea) : wordOk (eRea x) := by
  intro w rest h
  obtain ⟨h1, h2, h3, h4, h5⟩ := sh_words
  cases x <;> (cases h; assumption)
theorem SrJ.frz0 {rest : List Stmt} {ρ2 : En} {ds : List PD} (i : Nat) {g : Option Rs} (go : SrJ X W rest (ρ.set i (.va (.list ds))) ρ2 g) (hd : ρ[i]? = some (.ow (.lst ds)) := by rfl) : SrJ X W rest ρ ρ2 g := by
  cases g with
  | none => exact BJ.frz0 i go hd
  | some r =>
    obtain ⟨ρ', q⟩ := go
    exact ⟨ρ', BJ.frz0 i q hd⟩
end
end Pj

set_option Elab.async false
set_option linter.all false
set_option maxRecDepth 100000
/-! Qo: a drawn tuple in the form of a reason. -/
namespace Pj
open PySem PySem.Spec PyProof.Rows L2
def rowD (m : Nat) (one other : Int) (b : Bg) (p : Int) : PD × Bg := (if 0 < (takeM (takeM b m).2 3).1 then .tuple [.int (min p (max one other)), .int (max (takeM b m).1 (min one other))] else .none, (takeM (takeM b m).2 3).2)
def drawnW (m n : Nat) (one other : Int) (pl : List Int) (w : Int) (b : Bg) : PD × Bg :=
  if w = 0 then (.tuple [.str "number", .int one, .int (takeM b n).1], (takeM b n).2)
  else if w = 1 then (.tuple [.str "option", .int (takeM b n).1, .int (min one other), .int (max one other)], (takeM b n).2)
  else if w = 2 then (.tuple [.str "low", .int one, .tuple (pl.map fun p => .int (min one p))], b)
  else if w = 3 then (.tuple [.str "high", .int one, .tuple (pl.map fun p => .int (max one p))], b)
  else (.tuple [.str "growth", .int (min one other), .int (max one other), .tuple (mapS (rowD m one other) pl b).1], (mapS (rowD m one other) pl b).2)
def drawnM (m n : Nat) (b : Bg) : PD × Bg :=
  drawnW m n (takeM b m).1 (takeM (takeM b m).2 m).1 (drawsM n m (takeM (takeM b m).2 m).2).1 (takeM (drawsM n m (takeM (takeM b m).2 m).2).2 5).1 (takeM (drawsM n m (takeM (takeM b m).2 m).2).2 5).2
def M_law_drawn (c : Ct) (ds : List PD) (c' : Ct) (o : PO) : Prop := ∃ (b : Bg) (ss : List Shot) (n : Nat), b.ok ∧ (1 ≤ ss.length ∧ ss.length ≤ 100) ∧ (2 ≤ n ∧ n ≤ 100) ∧ (∀ s ∈ ss, s.2.length = n) ∧ c = eBg b ∧ ds = [eShots ss] ∧ c' = eBg (drawnM ss.length n b).2 ∧ o = .ok (.va (drawnM ss.length n b).1)
section
variable {m n : Nat} {b : Bg}
theorem drawsM_ok {w : Int} (h : b.ok) (hw : 0 < w) : (drawsM n w b).2.ok ∧ (drawsM n w b).1.length = n := by
  refine ⟨?_, by unfold drawsM; rw [mapS_length, List.length_range]⟩
  exact (mapS_inv (f := fun b (_ : Nat) => takeM b w) Bg.ok (fun _ _ => True) h fun _ b _ k => ⟨trivial, (takeM_ok k hw).1⟩).1
theorem rows_ok {one other : Int} {pl : List Int} (h : b.ok) (hm : 0 < m) : (mapS (rowD m one other) pl b).2.ok :=
  (mapS_inv (f := rowD m one other) Bg.ok (fun _ _ => True) h fun _ b _ k => ⟨trivial, (takeM_ok (takeM_ok k (n := m) (by omega)).1 (n := 3) (by decide)).1⟩).1
theorem drawnM_ok (h : b.ok) (hm : 0 < m) (hn : 0 < n) : (drawnM m n b).2.ok ∧ wordOk (drawnM m n b).1 := by
  have k1 := (takeM_ok h (n := m) (by omega)).1
  have k2 := (takeM_ok k1 (n := m) (by omega)).1
  have k3 := (drawsM_ok (n := n) k2 (w := m) (by omega)).1
  have k4 := (takeM_ok k3 (n := 5) (by decide)).1
  obtain ⟨s1, s2, s3, s4, s5⟩ := sh_words
  unfold drawnM
  generalize (takeM (drawsM n m (takeM (takeM b m).2 m).2).2 5).2 = q at *
  unfold drawnW
  split
  · exact ⟨(takeM_ok k4 (n := n) (by omega)).1, fun w rest e => by cases e; assumption⟩
  split
  · exact ⟨(takeM_ok k4 (n := n) (by omega)).1, fun w rest e => by cases e; assumption⟩
  split
  · exact ⟨k4, fun w rest e => by cases e; assumption⟩
  split
  · exact ⟨k4, fun w rest e => by cases e; assumption⟩
  · exact ⟨rows_ok k4 hm, fun w rest e => by cases e; assumption⟩
end
end Pj

set_option Elab.async false
set_option linter.all false
set_option maxRecDepth 100000
/-! Qp: the ends of a range, found by trying votes about a guess. -/
namespace Pj
open PySem PySem.Spec PyProof.Rows L2
theorem guess_near {r : Ru} {v t x : Int} (ht : 0 < t) (h : numberM r v t = x) : x * t / scl r - (t / scl r + 3) ≤ v ∧ v ≤ x * t / scl r + (t / scl r + 3) := by
  have a := (numberM_iff (r := r) (v := v) (n := x) ht).mp h
  have b : (2 * x - 1) * t ≤ 2 * (scl r * v) ∧ 2 * (scl r * v) ≤ (2 * x + 1) * t := by
    split at a <;> omega
  have e1 : (2 * x - 1) * t = 2 * (x * t) - t := by rw [Int.sub_mul, Int.mul_assoc, Int.one_mul]
  have e2 : (2 * x + 1) * t = 2 * (x * t) + t := by rw [Int.add_mul, Int.mul_assoc, Int.one_mul]
  rw [e1, e2] at b
  generalize x * t = p at *
  have hs : scl r = 100 ∨ scl r = 1000 ∨ scl r = 10000 := by unfold scl; split <;> simp
  rcases hs with e | e | e <;> rw [e] at b ⊢ <;> omega
theorem rngI_nil {lo hi : Int} (h : hi < lo) : rngI lo hi = [] := by
  unfold rngI
  rw [show (hi - lo + 1).toNat = 0 by omega]
  rfl
theorem rngI_push {lo v : Int} (h : lo ≤ v) : rngI lo v = rngI lo (v - 1) ++ [v] := by
  unfold rngI
  obtain ⟨k, hk⟩ : ∃ k : Nat, (v - lo).toNat = k := ⟨_, rfl⟩
  rw [show (v - lo + 1).toNat = k + 1 by omega, show (v - 1 - lo + 1).toNat = k by omega, List.range_succ, List.map_append]
  congr 1
  show [lo + (k : Int)] = [v]
  rw [show lo + (k : Int) = v by omega]
/-- the votes about the guess that show the number, up to v -/
theorem near_step {r : Ru} {t x v : Int} (ht : 0 < t) (h0 : 0 ≤ v) (h1 : v ≤ t) : rngI (lowM r t x) (min v (highM r t x)) = if numberM r v t = x then rngI (lowM r t x) (min (v - 1) (highM r t x)) ++ [v] else rngI (lowM r t x) (min (v - 1) (highM r t x)) := by
  have i := range_iff (r := r) (n := x) ht h0 h1
  split
  · rename_i e
    obtain ⟨a, b⟩ := i.mpr e
    rw [show min v (highM r t x) = v by omega, show min (v - 1) (highM r t x) = v - 1 by omega, rngI_push a]
  · rename_i e
    have : ¬ (lowM r t x ≤ v ∧ v ≤ highM r t x) := fun h => e (i.mp h)
    by_cases c : lowM r t x ≤ v
    · rw [show min v (highM r t x) = highM r t x by omega, show min (v - 1) (highM r t x) = highM r t x by omega]
    · rw [rngI_nil (by omega), rngI_nil (by omega)]
def M_law_end (ds : List PD) (o : PO) : Prop := ∃ (r : Ru) (n : Nat) (ss : List Shot) (i k : Nat) (hi : Bool), GoodS r n ss ∧ i < ss.length ∧ k < n ∧ ds = [eRu r, eShots ss, .int i, .int k, .int (if hi then 1 else 0)] ∧ o = .ok (.va (eOI ((rAt (rngs r ss) i k).map fun p => if hi then p.2 else p.1)))
/-- an end of a range and its sign -/
structure EndR where
  place : Nat
  opt : Nat
  hi : Bool
  sign : Int
def EndR.at (rs : List (List Rng)) (e : EndR) : Option Int := (rAt rs e.place e.opt).map fun p => if e.hi then p.2 else p.1
def EndR.pd (e : EndR) : PD := .tuple [.int e.place, .int e.opt, .int (if e.hi then 1 else 0), .int e.sign]
def sumEnds (rs : List (List Rng)) (es : List EndR) : Option Int := if es.all fun e => (e.at rs).isSome then some ((es.map fun e => e.sign * (e.at rs).getD 0).sum) else none
def M_law_sum_of (ds : List PD) (o : PO) : Prop := ∃ (r : Ru) (n : Nat) (ss : List Shot) (es : List EndR), GoodS r n ss ∧ es.length ≤ 100 ∧ (∀ e ∈ es, e.place < ss.length ∧ e.opt < n ∧ (e.sign = 1 ∨ e.sign = -1)) ∧ ds = [eRu r, eShots ss, .list (es.map EndR.pd)] ∧ o = .ok (.va (eOI (sumEnds (rngs r ss) es)))
def M_law_is_reason (ds : List PD) (o : PO) : Prop := ∃ (r : Ru) (n : Nat) (ss : List Shot) (x : PD), GoodS r n ss ∧ wordOk x ∧ ds = [eRu r, eShots ss, x] ∧ o = .ok (.va (.bool (isReaS r n ss x)))
section
variable {m n : Nat} {ts : List Int} {rs : List (List Rng)}
/-- what the law's own check says of picks -/
def picksM (m n : Nat) (ts : List Int) (rs : List (List Rng)) (w : Str) (i : Int) (mid es : List PD) : Bool :=
  if w == ("low" : Str) || w == ("high" : Str) then mid.isEmpty && isSumR m n ts rs (w == ("low" : Str)) (.int i) (.tuple es)
  else if w == ("growth" : Str) then (match mid with
    | [b] => isGrowR m n ts rs (.int i) b (.tuple es)
    | _ => false)
  else false
def M_law_by_picks (ds : List PD) (o : PO) : Prop := ∃ (r : Ru) (n : Nat) (ss : List Shot) (w : Str) (i : Int) (mid es : List PD), GoodS r n ss ∧ SeqAt.shaped (.str w) = true ∧ (0 ≤ i ∧ i ≤ (ss.length : Nat) - 1) ∧ es.length = n ∧ ds = [eRu r, eShots ss, .tuple (.str w :: .int i :: (mid ++ [.tuple es])), .int ((ss.length : Nat) - 1)] ∧ o = .ok (.va (.bool (picksM ss.length n (tots ss) (rngs r ss) w i mid es)))
theorem run_zip {S : Type} (P : PD → Bool) (nxt : S → PD × Nat → S) : ∀ (es : List PD) (k : Nat) (s : S), runOk (fun _ (q : PD × Nat) => P q.1) nxt s (es.zipIdx k) = es.all P
  | [], _, _ => rfl
  | e :: es, k, s => by
    rw [List.zipIdx_cons, List.all_cons]
    show (P e && runOk _ _ _ _) = _
    rw [run_zip P nxt es]
theorem foldl_app2 {α β : Type} (f : α → List β) : ∀ (l : List α) (acc : List β), l.foldl (fun acc a => acc ++ f a) acc = acc ++ l.flatMap f
  | [], acc => by simp
  | a :: l, acc => by rw [List.foldl_cons, foldl_app2 f l, List.flatMap_cons, List.append_assoc]
/-- a pick of low or high as an end -/
def rowS (low : Bool) (q : PD × Nat) : List EndR := if isN q.1 then [] else [⟨(toI q.1).toNat, q.2, !low, 1⟩]
theorem rowS_flat {low : Bool} : ∀ l : List (PD × Nat), (l.flatMap (rowS low)).map (fun e => e.at rs) = (l.filter fun p => !isN p.1).map fun p => endV rs p.1 p.2 (!low)
  | [] => rfl
  | q :: l => by
    rw [List.flatMap_cons, List.map_append, rowS_flat l]
    unfold rowS
    cases h : isN q.1 with
    | true => rw [List.filter_cons_of_neg (by rw [h]; decide), if_pos rfl]; rfl
    | false => rw [List.filter_cons_of_pos (by rw [h]; rfl), if_neg Bool.false_ne_true]; rfl
theorem all_not_any (l : List (Option Int)) : l.all Option.isSome = !(l.any Option.isNone) := by
  induction l with
  | nil => rfl
  | cons a l ih => rw [List.all_cons, List.any_cons, ih]; cases a <;> simp
theorem sums_one : ∀ l : List EndR, (∀ e ∈ l, e.sign = 1) → (l.map fun e => e.sign * (e.at rs).getD 0).sum = ((l.map fun e => e.at rs).map (·.getD 0)).sum
  | [], _ => rfl
  | e :: l, h => by
    rw [List.map_cons, List.sum_cons, List.map_cons, List.map_cons, List.sum_cons, sums_one l fun e he => h e (List.mem_cons_of_mem _ he), h e List.mem_cons_self, Int.one_mul]
theorem rowS_sign {low : Bool} (l : List (PD × Nat)) : ∀ e ∈ l.flatMap (rowS low), e.sign = 1 := fun e he => by
  obtain ⟨q, _, h⟩ := List.mem_flatMap.mp he
  unfold rowS at h
  split at h
  · cases h
  · rw [List.mem_singleton.mp h]
/-- found, and the comparison -/
theorem sumS {low : Bool} {es : List PD} {t : Int} : (match sumEnds rs (es.zipIdx.flatMap (rowS low)) with
    | none => false
    | some f => if low then decide (t < f) else decide (f < t)) = sumOk t low (endsOf rs (!low) es) := by
  have e := rowS_flat (rs := rs) (low := low) es.zipIdx
  unfold sumEnds sumOk endsOf
  rw [← e, ← all_not_any, List.all_map, sums_one _ (rowS_sign _)]
  show _ = ((es.zipIdx.flatMap (rowS low)).all (fun e => (e.at rs).isSome) && _)
  cases (es.zipIdx.flatMap (rowS low)).all (fun e => (e.at rs).isSome) with
  | true => rfl
  | false => rfl
/-- a pick of growth as two ends -/
def rowG (q : PD × Nat) : List EndR := match q.1 with
  | .tuple [x, y] => [⟨(toI x).toNat, q.2, false, 1⟩, ⟨(toI y).toNat, q.2, true, -1⟩]
  | _ => []
def okP (m : Nat) (i j : Int) : PD → Bool
  | .none => true
  | .tuple [x, y] => isI x 0 j && isI y i (m - 1)
  | _ => false
theorem okG_okP {i j z : Int} {q : PD × Nat} : okG m rs i j z q = (okP m i j q.1 && (rowG q).all fun e => (e.at rs).isSome) := by
  obtain ⟨d, k⟩ := q
  by_cases hx : ∃ x y, d = .tuple [x, y]
  · obtain ⟨x, y, rfl⟩ := hx
    show (isI x 0 j && (isI y i (m - 1) && ((endV rs x k false).isSome && (endV rs y k true).isSome))) = (isI x 0 j && isI y i (m - 1) && ((endV rs x k false).isSome && ((endV rs y k true).isSome && true)))
    rw [Bool.and_true, Bool.and_assoc]
  · by_cases hn : d = .none
    · subst hn; rfl
    · have a : okG m rs i j z (d, k) = false := by
        unfold okG
        split
        · rename_i e; exact absurd e hn
        · rename_i e; exact absurd ⟨_, _, e⟩ hx
        · rfl
      have b : okP m i j d = false := by
        unfold okP
        split
        · exact absurd rfl hn
        · exact absurd ⟨_, _, rfl⟩ hx
        · rfl
      rw [a]
      show _ = (okP m i j d && _)
      rw [b]
      rfl
theorem hG_row {q : PD × Nat} : hG rs q = ((rowG q).map fun e => e.sign * (e.at rs).getD 0).sum := by
  obtain ⟨d, k⟩ := q
  by_cases hx : ∃ x y, d = .tuple [x, y]
  · obtain ⟨x, y, rfl⟩ := hx
    show (endV rs x k false).getD 0 - (endV rs y k true).getD 0 = 1 * (endV rs x k false).getD 0 + (-1 * (endV rs y k true).getD 0 + 0)
    omega
  · have a : hG rs (d, k) = 0 := by
      unfold hG
      split
      · rename_i e; exact absurd ⟨_, _, e⟩ hx
      · rfl
    have b : rowG (d, k) = [] := by
      unfold rowG
      split
      · rename_i e; exact absurd ⟨_, _, e⟩ hx
      · rfl
    rw [a, b]
    rfl
theorem sum_flat {α β : Type} (f : α → List β) (g : β → Int) : ∀ l : List α, ((l.flatMap f).map g).sum = (l.map fun a => ((f a).map g).sum).sum
  | [] => rfl
  | a :: l => by rw [List.flatMap_cons, List.map_append, List.sum_append, sum_flat f g l, List.map_cons, List.sum_cons]
theorem growS {i j t : Int} {es : List PD} (h : es.all (okP m i j) = true) : (match sumEnds rs (es.zipIdx.flatMap rowG) with
    | none => false
    | some f => decide (t < f)) = (runOk (okG m rs i j) (nxtG rs) 0 es.zipIdx && decide (t < es.zipIdx.foldl (nxtG rs) 0)) := by
  have hz : ∀ q ∈ es.zipIdx, okP m i j q.1 = true := fun q hq => by
    obtain ⟨k, hk⟩ := List.getElem?_of_mem hq
    rw [List.getElem?_zipIdx] at hk
    obtain ⟨d, h1, h2⟩ := Option.map_eq_some_iff.mp hk
    rw [← h2]
    exact List.all_eq_true.mp h d (List.mem_of_getElem? h1)
  have e1 : es.zipIdx.all (okG m rs i j 0) = (es.zipIdx.flatMap rowG).all fun e => (e.at rs).isSome := by
    rw [List.all_flatMap]
    generalize es.zipIdx = l at hz ⊢
    induction l with
    | nil => rfl
    | cons q l ih => rw [List.all_cons, List.all_cons, ih fun q hq => hz q (List.mem_cons_of_mem _ hq), okG_okP, hz q List.mem_cons_self, Bool.true_and]
  rw [run_all, foldl_nxt, Int.zero_add, e1]
  have e2 : (es.zipIdx.map (hG rs)).sum = ((es.zipIdx.flatMap rowG).map fun e => e.sign * (e.at rs).getD 0).sum := by
    rw [sum_flat]
    congr 1
    exact List.map_congr_left fun q _ => hG_row
  rw [e2]
  unfold sumEnds
  cases (es.zipIdx.flatMap rowG).all (fun e => (e.at rs).isSome) with
  | true => rfl
  | false => rfl
end
section
variable {m n : Nat} {ts : List Int} {rs : List (List Rng)}
theorem isI_int {i lo hi : Int} (h1 : lo ≤ i) (h2 : i ≤ hi) : isI (.int i) lo hi = true := by
  show (decide (lo ≤ i) && decide (i ≤ hi)) = true
  rw [decide_eq_true h1, decide_eq_true h2]
  rfl
def okS (m : Nat) (i : Int) (low : Bool) (d : PD) : Bool := low && isN d || isI d (if low then 0 else i) (if low then i else (m : Nat) - 1)
theorem sumR_eq {i : Int} {low : Bool} {es : List PD} (h1 : 0 ≤ i) (h2 : i ≤ (m : Nat) - 1) (hl : es.length = n) : isSumR m n ts rs low (.int i) (.tuple es) = (es.all (okS m i low) && sumOk (ts.getD i.toNat 0) low (endsOf rs (!low) es)) := by
  unfold isSumR
  rw [isI_int h1 h2, Bool.true_and]
  show (decide (es.length = n) && es.all (okS m i low) && _) = _
  rw [decide_eq_true hl, Bool.true_and]
  rfl
theorem growR_no {i : Int} {b p : PD} (h : isI b (i + 1) ((m : Nat) - 1) = false) : isGrowR m n ts rs (.int i) b p = false := by
  cases p with
  | tuple es =>
    show (isI (.int i) 0 ((m : Nat) - 1) && (isI b (i + 1) ((m : Nat) - 1) && _)) = false
    rw [h, Bool.false_and, Bool.and_false]
  | _ => rfl
theorem growR_all {i j : Int} {es : List PD} (h : isGrowR m n ts rs (.int i) (.int j) (.tuple es) = true) : es.all (okP m i j) = true := by
  have h : (isI (.int i) 0 ((m : Nat) - 1) && (isI (.int j) (i + 1) ((m : Nat) - 1) && (decide (es.length = n) && (runOk (okG m rs i j) (nxtG rs) 0 es.zipIdx && _)))) = true := h
  rw [Bool.and_eq_true, Bool.and_eq_true, Bool.and_eq_true, Bool.and_eq_true] at h
  have h := h.2.2.2.1
  rw [run_all, List.all_eq_true] at h
  rw [List.all_eq_true]
  intro d hd
  obtain ⟨k, hk⟩ := List.getElem?_of_mem hd
  have hz : (d, k) ∈ es.zipIdx := List.mem_iff_getElem?.mpr ⟨k, by rw [List.getElem?_zipIdx, hk]; simp⟩
  have := h _ hz
  rw [okG_okP, Bool.and_eq_true] at this
  exact this.1
theorem growR_eq {i j : Int} {es : List PD} (h1 : 0 ≤ i) (h2 : i + 1 ≤ j) (h3 : j ≤ (m : Nat) - 1) (hl : es.length = n) (h : es.all (okP m i j) = true) : isGrowR m n ts rs (.int i) (.int j) (.tuple es) = (match sumEnds rs (es.zipIdx.flatMap rowG) with
    | none => false
    | some f => decide (ts.getD j.toNat 0 - ts.getD i.toNat 0 < f)) := by
  rw [growS h]
  show (isI (.int i) 0 ((m : Nat) - 1) && (isI (.int j) (i + 1) ((m : Nat) - 1) && (decide (es.length = n) && _))) = _
  rw [isI_int h1 (by omega), isI_int h2 h3, decide_eq_true hl, Bool.true_and, Bool.true_and, Bool.true_and]
  rfl
theorem at_neg1 (l : List PD) (x : PD) : atI (l ++ [x]) (-1) = some x := by
  unfold atI ixN
  rw [List.length_append, List.length_singleton, if_neg (by decide), if_pos (by omega)]
  show (l ++ [x])[_]? = _
  rw [show (-1 + ((l.length + 1 : Nat) : Int)).toNat = l.length by omega, List.getElem?_append_right (Nat.le_refl _), Nat.sub_self]
  rfl
end
section
variable {X : Cx} {W : WX} {lv : Nat} {body rest ta tb : List Stmt} {ρ ρ1 ρ2 : En} {r0 : Rs} {po : PO} {tg iter c : Expr} {pos : Pos} {sh : TgS} {items : List PD} {α S : Type} {g : Option Rs}
theorem sr_ift (hc : TJ X W c ρ ρ1 true) (h : SrJ X W ta ρ1 ρ2 g) : SrJ X W [.If c ta tb pos] ρ ρ2 g := by
  cases g with
  | none => exact bj_one (sj_if hc (fun _ => h) (fun z => by cases z))
  | some r =>
    obtain ⟨ρ', q⟩ := h
    exact ⟨ρ', bj_one (sj_if hc (fun _ => q) (fun z => by cases z))⟩
theorem sr_iftK {k : Bool} (hc : TJ X W c ρ ρ1 k) (hk : k = true) (h : SrJ X W ta ρ1 ρ2 g) : SrJ X W [.If c ta tb pos] ρ ρ2 g := by
  subst hk
  exact sr_ift hc h
theorem sr_iff (hc : TJ X W c ρ ρ1 false) (h : SrJ X W tb ρ1 ρ2 g) : SrJ X W [.If c ta tb pos] ρ ρ2 g := by
  cases g with
  | none => exact bj_one (sj_if hc (fun z => by cases z) (fun _ => h))
  | some r =>
    obtain ⟨ρ', q⟩ := h
    exact ⟨ρ', bj_one (sj_if hc (fun z => by cases z) (fun _ => q))⟩
theorem sr_iffK {k : Bool} (hc : TJ X W c ρ ρ1 k) (hk : k = false) (h : SrJ X W tb ρ1 ρ2 g) : SrJ X W [.If c ta tb pos] ρ ρ2 g := by
  subst hk
  exact sr_iff hc h
theorem forJ_runI (E : S → En) (ok : S → α → Bool) (nxt : S → α → S) (en : α → PD) (Inv : Nat → S → Prop) : ∀ (l : List α) (j : Nat) (s0 : S), Inv j s0 →
    (∀ i a s, l[i]? = some a → Inv (j + i) s → ∃ ρt, tgSet sh (en a) (E s) = some ρt ∧ SrJ X W body ρt (E (nxt s a)) (if ok s a then none else some r0) ∧ (ok s a = true → Inv (j + i + 1) (nxt s a))) →
    (runOk ok nxt s0 l = true → ForJ X W sh body (l.map en) (E s0) (.nx (E (l.foldl nxt s0))) ∧ Inv (j + l.length) (l.foldl nxt s0)) ∧ (runOk ok nxt s0 l = false → ∃ ρ', ForJ X W sh body (l.map en) (E s0) (.rt ρ' r0))
  | [], j, s0, h0, _ => ⟨fun _ => ⟨.nil, h0⟩, fun h => by cases h⟩
  | a :: l, j, s0, h0, turn => by
    obtain ⟨ρt, h1, h2, h3⟩ := turn 0 a s0 rfl h0
    have e : runOk ok nxt s0 (a :: l) = (ok s0 a && runOk ok nxt (nxt s0 a) l) := rfl
    rw [e]
    cases c : ok s0 a with
    | true =>
      obtain ⟨i1, i2⟩ := forJ_runI E ok nxt en Inv l (j + 1) (nxt s0 a) (h3 c) fun i b s hb hI => by
        rw [show j + 1 + i = j + (i + 1) by omega] at hI ⊢
        exact turn (i + 1) b s hb hI
      rw [c, if_pos rfl] at h2
      rw [Bool.true_and]
      refine ⟨fun h => ⟨.nx h1 h2 (i1 h).1, ?_⟩, fun h => ?_⟩
      · have := (i1 h).2
        rwa [show j + 1 + l.length = j + (l.length + 1) by omega] at this
      · obtain ⟨ρ', g⟩ := i2 h
        exact ⟨ρ', .nx h1 h2 g⟩
    | false =>
      rw [c, if_neg Bool.false_ne_true] at h2
      refine ⟨fun h => (by cases h), fun _ => ?_⟩
      obtain ⟨ρ', g⟩ := h2
      exact ⟨ρ', .rt h1 g⟩
theorem fj_runI (E : S → En) (ok : S → α → Bool) (nxt : S → α → S) (l : List α) (en : α → PD) (Inv : Nat → S → Prop) (s0 : S) (C : Ok X W lv) (hi : ItJ X W tg iter ρ (E s0) items) (he : items = l.map en) (hg : PG X tg (gOf X.K sh)) (h0 : Inv 0 s0)
    (turn : ∀ i a s, l[i]? = some a → Inv i s → ∃ ρt, tgSet sh (en a) (E s) = some ρt ∧ SrJ X W body ρt (E (nxt s a)) (if ok s a then none else some r0) ∧ (ok s a = true → Inv (i + 1) (nxt s a)))
    (h1 : runOk ok nxt s0 l = true → Inv l.length (l.foldl nxt s0) → FJ X W rest (E (l.foldl nxt s0)) po) (h2 : runOk ok nxt s0 l = false → po = .ok r0) (hs : ∀ x, foldedSetIterable iter X.env x = pure x := by intro _; rfl) : FJ X W (.For tg iter body [] pos :: rest) ρ po := by
  subst he
  obtain ⟨i1, i2⟩ := forJ_runI (X := X) (W := W) (body := body) (r0 := r0) (sh := sh) E ok nxt en Inv l 0 s0 h0 fun i a s ha hI => by
    rw [Nat.zero_add] at hI ⊢
    exact turn i a s ha hI
  cases c : runOk ok nxt s0 l with
  | true =>
    obtain ⟨q1, q2⟩ := i1 c
    rw [Nat.zero_add] at q2
    exact fj_st (sj_for C hi hg q1 hs) (h1 c q2)
  | false =>
    obtain ⟨ρ', g⟩ := i2 c
    exact fj_st (sj_for C hi hg g hs) (h2 c)
end
theorem zipAt {es : List PD} {i : Nat} {q : PD × Nat} (h : es.zipIdx[i]? = some q) : q.2 = i ∧ i < es.length ∧ es[i]? = some q.1 := by
  rw [List.getElem?_zipIdx] at h
  cases e : es[i]? with
  | none => rw [e] at h; cases h
  | some d => rw [e] at h; cases h; exact ⟨by simp, (List.getElem?_eq_some_iff.mp e).1, rfl⟩
theorem atHd {y : PD} {ys : List PD} : atI (y :: ys) 0 = some y := atI_nat (xs := y :: ys) (j := 0) rfl
theorem lh_any (w : Str) : ([PyData.str "low", .str "high"].any fun y => PyData.eqv y (.str w)) = (w == ("low" : Str) || w == ("high" : Str)) := by
  show (("low" : Str) == w || (("high" : Str) == w || false)) = _
  rw [Bool.or_false, BEq.comm, BEq.comm (a := ("high" : Str))]
theorem GoodS.totAt {r : Ru} {n : Nat} {ss : List Shot} (G : GoodS r n ss) {i : Int} (h1 : 0 ≤ i) (h2 : i ≤ (ss.length : Nat) - 1) : ∃ s : Shot, atI (ss.map eShot) i = some (eShot s) ∧ s.1 = (tots ss).getD i.toNat 0 := by
  have hl : i.toNat < ss.length := by omega
  refine ⟨ss.getD i.toNat (0, []), ?_, ?_⟩
  · have := at_map (l := ss) (f := eShot) (i := i.toNat) (d := (0, [])) hl
    rwa [show ((i.toNat : Nat) : Int) = i by omega] at this
  · unfold tots
    rw [List.getD_eq_getElem?_getD, List.getD_eq_getElem?_getD, List.getElem?_map, List.getElem?_eq_getElem hl]
    rfl
end Pj

set_option Elab.async false
set_option linter.all false
set_option maxRecDepth 100000
/-! Qq: the law's own is_reason is the program's. -/
namespace Pj
open PySem PySem.Spec PyProof.Rows L2
section
variable {m n : Nat} {ts : List Int} {rs : List (List Rng)} {w : Str}
theorem reaW_short {rest : List PD} (h : rest.length ≤ 1) : isReaW m n ts rs w rest = false := by
  match rest, h with
  | [], _ => unfold isReaW; cases (w == ("number" : Str)) <;> cases (w == ("option" : Str)) <;> cases (w == ("low" : Str)) <;> cases (w == ("high" : Str)) <;> cases (w == ("growth" : Str)) <;> rfl
  | [_], _ => unfold isReaW; cases (w == ("number" : Str)) <;> cases (w == ("option" : Str)) <;> cases (w == ("low" : Str)) <;> cases (w == ("high" : Str)) <;> cases (w == ("growth" : Str)) <;> rfl
theorem w_eq {v u : Str} (h : (w == v) = true) (hne : (v == u) = false) : (w == u) = false := by rw [eq_of_beq h]; exact hne
theorem ne_words : (("number" : Str) == ("option" : Str)) = false ∧ (("number" : Str) == ("low" : Str)) = false ∧ (("number" : Str) == ("high" : Str)) = false ∧ (("number" : Str) == ("growth" : Str)) = false ∧ (("option" : Str) == ("low" : Str)) = false ∧ (("option" : Str) == ("high" : Str)) = false ∧ (("option" : Str) == ("growth" : Str)) = false := by decide +kernel
theorem mid_two {a z : PD} {mid : List PD} (h : (a :: (mid ++ [z])).length = 2) : mid = [] := by
  rw [List.length_cons, List.length_append, List.length_singleton] at h
  exact List.length_eq_zero_iff.mp (by omega)
theorem reaW_picks {i : Int} {mid es : List PD} (hN : (w == ("number" : Str)) = true → mid.length ≠ 0) (hO : (w == ("option" : Str)) = true → mid.length ≠ 1) :
    isReaW m n ts rs w (.int i :: (mid ++ [.tuple es])) = picksM m n ts rs w i mid es := by
  obtain ⟨e1, e2, e3, e4, e5, e6, e7⟩ := ne_words
  unfold isReaW picksM
  cases c1 : (w == ("number" : Str)) with
  | true =>
    rw [if_pos rfl, w_eq c1 e2, w_eq c1 e3, w_eq c1 e4]
    match mid, hN c1 with
    | [], h => exact absurd rfl h
    | _ :: t, _ => cases t <;> rfl
  | false =>
    rw [if_neg Bool.false_ne_true]
    cases c2 : (w == ("option" : Str)) with
    | true =>
      rw [if_pos rfl, w_eq c2 e5, w_eq c2 e6, w_eq c2 e7]
      match mid, hO c2 with
      | [], _ => rfl
      | [_], h => exact absurd rfl h
      | _ :: _ :: t, _ => cases t <;> rfl
    | false =>
      rw [if_neg Bool.false_ne_true]
      by_cases c3 : (w == ("low" : Str) || w == ("high" : Str)) = true
      · rw [if_pos c3, if_pos c3]
        match mid with
        | [] => rfl
        | _ :: t => cases t <;> rfl
      · rw [if_neg c3, if_neg c3]
        cases (w == ("growth" : Str)) with
        | false => rfl
        | true =>
          rw [if_pos rfl, if_pos rfl]
          match mid with
          | [] => rfl
          | [_] => rfl
          | _ :: _ :: t => cases t <;> rfl
theorem reaW_need {a z : PD} {mid : List PD} (hN : (w == ("number" : Str)) = true → mid.length ≠ 0) (hO : (w == ("option" : Str)) = true → mid.length ≠ 1) (h : isReaW m n ts rs w (a :: (mid ++ [z])) = true) : (∃ es, z = .tuple es ∧ es.length = n) ∧ isI a 0 ((m : Nat) - 1) = true := by
  unfold isReaW at h
  have sumN : ∀ {low : Bool}, isSumR m n ts rs low a z = true → (∃ es, z = .tuple es ∧ es.length = n) ∧ isI a 0 ((m : Nat) - 1) = true := fun {low} h => by
    unfold isSumR at h
    rw [Bool.and_eq_true, Bool.and_eq_true] at h
    refine ⟨?_, h.1⟩
    have h2 := h.2.1
    cases z with
    | tuple es =>
      have h2 : (decide (es.length = n) && _) = true := h2
      rw [Bool.and_eq_true] at h2
      exact ⟨es, rfl, of_decide_eq_true h2.1⟩
    | _ => cases h2
  have growN : ∀ {b : PD}, isGrowR m n ts rs a b z = true → (∃ es, z = .tuple es ∧ es.length = n) ∧ isI a 0 ((m : Nat) - 1) = true := fun {b} h => by
    cases z with
    | tuple es =>
      have h : (isI a 0 ((m : Nat) - 1) && (isI b (toI a + 1) ((m : Nat) - 1) && (decide (es.length = n) && _))) = true := h
      rw [Bool.and_eq_true, Bool.and_eq_true, Bool.and_eq_true] at h
      exact ⟨⟨es, rfl, of_decide_eq_true h.2.2.1⟩, h.1⟩
    | _ => cases h
  cases c1 : (w == ("number" : Str)) with
  | true =>
    rw [c1, if_pos rfl] at h
    match mid, hN c1, h with
    | [], hh, _ => exact absurd rfl hh
    | _ :: t, _, h => cases t <;> cases h
  | false =>
    rw [c1, if_neg Bool.false_ne_true] at h
    cases c2 : (w == ("option" : Str)) with
    | true =>
      rw [c2, if_pos rfl] at h
      match mid, hO c2, h with
      | [], _, h => cases h
      | [_], hh, _ => exact absurd rfl hh
      | _ :: _ :: t, _, h => cases t <;> cases h
    | false =>
      rw [c2, if_neg Bool.false_ne_true] at h
      by_cases c3 : (w == ("low" : Str) || w == ("high" : Str)) = true
      · rw [if_pos c3] at h
        match mid, h with
        | [], h => exact sumN h
        | _ :: t, h => cases t <;> cases h
      · rw [if_neg c3] at h
        cases c4 : (w == ("growth" : Str)) with
        | false => rw [c4, if_neg Bool.false_ne_true] at h; cases h
        | true =>
          rw [c4, if_pos rfl] at h
          match mid, h with
          | [], h => cases h
          | [_], h => exact growN h
          | _ :: _ :: t, h => cases t <;> cases h
theorem optS {j q : Int} {k : Nat} : (match sumEnds rs [⟨j.toNat, k, false, 1⟩, ⟨q.toNat, k, true, -1⟩] with
    | none => false
    | some f => decide (0 < f)) = (match endV rs (.int j) k false, endV rs (.int q) k true with
    | some x, some y => decide (y < x)
    | _, _ => false) := by
  unfold sumEnds
  show (match (if ((endV rs (.int j) k false).isSome && ((endV rs (.int q) k true).isSome && true)) = true then some (1 * (endV rs (.int j) k false).getD 0 + (-1 * (endV rs (.int q) k true).getD 0 + 0)) else none) with
    | none => false
    | some f => decide (0 < f)) = _
  cases endV rs (.int j) k false with
  | none => rfl
  | some x =>
    cases endV rs (.int q) k true with
    | none => rfl
    | some y =>
      show decide (0 < 1 * x + (-1 * y + 0)) = decide (y < x)
      by_cases c : y < x
      · rw [decide_eq_true c]; exact decide_eq_true (by omega)
      · rw [decide_eq_false c]; exact decide_eq_false (by omega)
theorem optR_no {a b c : PD} (h : isI a 0 ((n : Nat) - 1) = false ∨ isI b 0 ((m : Nat) - 1) = false ∨ isI c (toI b + 1) ((m : Nat) - 1) = false) : isOptR m n rs a b c = false := by
  unfold isOptR
  rcases h with h | h | h <;> rw [h]
  · rfl
  · rw [Bool.false_and, Bool.and_false]
  · rw [Bool.false_and, Bool.and_false, Bool.and_false]
theorem optR_eq {i j q : Int} (ha : isI (.int i) 0 ((n : Nat) - 1) = true) (hb : isI (.int j) 0 ((m : Nat) - 1) = true) (hc : isI (.int q) (j + 1) ((m : Nat) - 1) = true) : isOptR m n rs (.int i) (.int j) (.int q) = (match sumEnds rs [⟨j.toNat, i.toNat, false, 1⟩, ⟨q.toNat, i.toNat, true, -1⟩] with
    | none => false
    | some f => decide (0 < f)) := by
  unfold isOptR
  rw [ha, hb, Bool.true_and, Bool.true_and]
  have hc : isI (.int q) (toI (PyData.int j) + 1) ((m : Nat) - 1) = true := hc
  rw [hc, Bool.true_and, optS]
  rfl
end
end Pj

set_option Elab.async false
set_option linter.all false
set_option maxRecDepth 100000
/-! Qr: a returned reason passes the check. -/
namespace Pj
open PySem PySem.Spec PyProof.Rows L2
section
variable {m n : Nat} {ts : List Int} {rs : List (List Rng)}
theorem zip_range {α : Type} (g : Nat → α) : ∀ (n k0 : Nat), ((List.range' k0 n).map g).zipIdx k0 = (List.range' k0 n).map fun k => (g k, k)
  | 0, _ => rfl
  | n + 1, k0 => by rw [List.range'_succ, List.map_cons, List.zipIdx_cons, zip_range g n (k0 + 1)]; rfl
theorem zip_range0 {α : Type} (g : Nat → α) (n : Nat) : ((List.range n).map g).zipIdx = (List.range n).map fun k => (g k, k) := by
  rw [List.range_eq_range']
  exact zip_range g n 0
theorem wd_num {a b : PD} : isReaM m n ts rs (.tuple [.str "number", a, b]) = (isI a 0 (m - 1) && (isI b 0 (n - 1) && (rAt rs (toI a).toNat (toI b).toNat).isNone)) := by
  show isReaW m n ts rs "number" [a, b] = _
  unfold isReaW
  rw [if_pos (by decide +kernel)]
theorem wd_opt {a b c : PD} : isReaM m n ts rs (.tuple [.str "option", a, b, c]) = isOptR m n rs a b c := by
  show isReaW m n ts rs "option" [a, b, c] = _
  unfold isReaW
  rw [if_neg (by decide +kernel), if_pos (by decide +kernel)]
theorem wd_low {a p : PD} : isReaM m n ts rs (.tuple [.str "low", a, p]) = isSumR m n ts rs true a p := by
  show isReaW m n ts rs "low" [a, p] = _
  unfold isReaW
  rw [if_neg (by decide +kernel), if_neg (by decide +kernel), if_pos (by decide +kernel)]
  rw [show (("low" : Str) == ("low" : Str)) = true by decide +kernel]
theorem wd_high {a p : PD} : isReaM m n ts rs (.tuple [.str "high", a, p]) = isSumR m n ts rs false a p := by
  show isReaW m n ts rs "high" [a, p] = _
  unfold isReaW
  rw [if_neg (by decide +kernel), if_neg (by decide +kernel), if_pos (by decide +kernel)]
  rw [show (("high" : Str) == ("low" : Str)) = false by decide +kernel]
theorem wd_growth {a b p : PD} : isReaM m n ts rs (.tuple [.str "growth", a, b, p]) = isGrowR m n ts rs a b p := by
  show isReaW m n ts rs "growth" [a, b, p] = _
  unfold isReaW
  rw [if_neg (by decide +kernel), if_neg (by decide +kernel), if_neg (by decide +kernel), if_pos (by decide +kernel)]
theorem ends_range {hi : Bool} (g : Nat → Nat) : endsOf rs hi ((List.range n).map fun k => .int (g k : Nat)) = (List.range n).map fun k => endV rs (.int (g k : Nat)) k hi := by
  unfold endsOf
  rw [zip_range0, List.filter_eq_self.mpr, List.map_map]
  · rfl
  · intro p hp
    obtain ⟨k, _, rfl⟩ := List.mem_map.mp hp
    rfl
theorem sumOk_some {t : Int} {low : Bool} {l : List Nat} {g : Nat → Option Int} {h : Nat → Int} (e : ∀ k ∈ l, g k = some (h k)) : sumOk t low (l.map g) = if low then decide (t < (l.map h).sum) else decide ((l.map h).sum < t) := by
  have e1 : l.map g = (l.map h).map some := by
    rw [List.map_map]
    exact List.map_congr_left e
  unfold sumOk
  rw [e1]
  have e2 : ((l.map h).map some).any Option.isNone = false := by
    rw [List.any_eq_false]
    intro x hx
    obtain ⟨y, _, rfl⟩ := List.mem_map.mp hx
    exact Bool.false_ne_true
  have e3 : ((l.map h).map some).map (fun x : Option Int => x.getD 0) = l.map h := by
    rw [List.map_map]
    exact List.map_id _
  rw [e2, e3]
  cases low <;> rfl
variable (z : Siz m n) (s : Shp m n rs) (ht : ts.length = m) (hn : hasNone rs = false)
include s hn in
theorem end_low {i k : Nat} (hi : i < m) (hk : k < n) : endV rs (.int (i : Nat)) k false = some (lowOf rs i k) := by
  obtain ⟨p, hp, e1, _⟩ := s.no hn hi hk
  unfold endV
  rw [show (toI (PyData.int (i : Nat))).toNat = i from Int.toNat_natCast i, hp, e1]
  rfl
include s hn in
theorem end_high {i k : Nat} (hi : i < m) (hk : k < n) : endV rs (.int (i : Nat)) k true = some (highOf rs i k) := by
  obtain ⟨p, hp, _, e1⟩ := s.no hn hi hk
  unfold endV
  rw [show (toI (PyData.int (i : Nat))).toNat = i from Int.toNat_natCast i, hp, e1]
  rfl
include s in
theorem miss_yes {x : Rea} (h : missingM rs = some x) : isReaM m n ts rs (eRea x) = true := by
  unfold missingM at h
  obtain ⟨p, hp, hx⟩ := List.exists_of_findSome?_eq_some h
  obtain ⟨i, hi⟩ := List.getElem?_of_mem hp
  rw [List.getElem?_zipIdx] at hi
  obtain ⟨row, h1, rfl⟩ := Option.map_eq_some_iff.mp hi
  unfold missRow at hx
  obtain ⟨q, hq, hy⟩ := List.exists_of_findSome?_eq_some hx
  obtain ⟨k, hk⟩ := List.getElem?_of_mem hq
  rw [List.getElem?_zipIdx] at hk
  obtain ⟨o, h2, rfl⟩ := Option.map_eq_some_iff.mp hk
  dsimp only at hy h2
  split at hy
  · cases hy
    rename_i ho
    have il : i < m := by rw [← s.rows]; exact (List.getElem?_eq_some_iff.mp h1).1
    have kl : k < n := by rw [← s.wide row (List.mem_of_getElem? h1)]; exact (List.getElem?_eq_some_iff.mp h2).1
    show isReaM m n ts rs (.tuple [.str "number", .int ((0 + i : Nat) : Int), .int ((0 + k : Nat) : Int)]) = true
    rw [Nat.zero_add, Nat.zero_add, wd_num, isI_int (by omega) (by omega), isI_int (by omega) (by omega), Bool.true_and, Bool.true_and]
    show (rAt rs (Int.toNat (i : Int)) (Int.toNat (k : Int))).isNone = true
    rw [Int.toNat_natCast, Int.toNat_natCast]
    have e : rAt rs i k = o := by
      unfold rAt
      rw [List.getD_eq_getElem?_getD, List.getD_eq_getElem?_getD, h1]
      show (row[k]?).getD none = o
      rw [h2]
      rfl
    rw [e]
    exact ho
  · cases hy
include s hn in
theorem fall_yes (hv : ∀ t k p, t < m → k < n → rAt rs t k = some p → p.1 ≤ p.2) {x : Rea} (h : fallenM n rs = some x) : isReaM m n ts rs (eRea x) = true := by
  unfold fallenM at h
  obtain ⟨t, ht, hx⟩ := List.exists_of_findSome?_eq_some h
  obtain ⟨k, hk, hy⟩ := List.exists_of_findSome?_eq_some hx
  rw [List.mem_range, s.rows] at ht
  rw [List.mem_range] at hk
  unfold fallAt at hy
  split at hy
  · cases hy
    rename_i hlt
    obtain ⟨b1, b2, _⟩ := bestLow_spec rs k t
    obtain ⟨p, hp, e1, e2⟩ := s.no hn ht hk
    have := hv t k p ht hk hp
    have ne : (bestLow rs k t).2 ≠ t := fun e => by
      rw [e, e1] at b2
      rw [e2] at hlt
      omega
    generalize hb : bestLow rs k t = b at *
    show isReaM m n ts rs (.tuple [.str "option", .int (k : Nat), .int (b.2 : Nat), .int (t : Nat)]) = true
    rw [wd_opt]
    unfold isOptR
    rw [isI_int (by omega) (by omega), isI_int (by omega) (by omega), Bool.true_and, Bool.true_and]
    have c : isI (.int (t : Nat)) (toI (PyData.int (b.2 : Nat)) + 1) ((m : Nat) - 1) = true := isI_int (show ((b.2 : Nat) : Int) + 1 ≤ (t : Nat) by omega) (by omega)
    rw [c, Bool.true_and, show (toI (PyData.int (k : Nat))).toNat = k from Int.toNat_natCast k, end_low s hn (i := b.2) (by omega) hk, end_high s hn ht hk]
    exact decide_eq_true (by rw [← b2]; exact hlt)
  · cases hy
include z s ht hn in
theorem sums_yes {x : Rea} (h : bySumsM n ts rs = some x) : isReaM m n ts rs (eRea x) = true := by
  unfold bySumsM at h
  obtain ⟨p, hp, hx⟩ := List.exists_of_findSome?_eq_some h
  obtain ⟨i, hi⟩ := List.getElem?_of_mem hp
  rw [List.getElem?_zipIdx] at hi
  obtain ⟨t, h1, rfl⟩ := Option.map_eq_some_iff.mp hi
  have il : i < m := by rw [← ht]; exact (List.getElem?_eq_some_iff.mp h1).1
  have et : ts.getD i 0 = t := by rw [List.getD_eq_getElem?_getD, h1]; rfl
  rw [Nat.zero_add] at hx
  unfold sumAt at hx
  dsimp only at hx
  split at hx
  · cases hx
    rename_i hlt
    have ep : PyData.tuple (((lowsAt n rs i).map (·.2)).map fun j => .int (j : Nat)) = .tuple ((List.range n).map fun k => .int ((bestLow rs k i).2 : Nat)) := by unfold lowsAt; rw [List.map_map, List.map_map]; rfl
    show isReaM m n ts rs (.tuple [.str "low", .int (i : Nat), .tuple (((lowsAt n rs i).map (·.2)).map fun j => .int (j : Nat))]) = true
    rw [ep, wd_low, sumR_eq (by omega) (by omega) (by rw [List.length_map, List.length_range]), Bool.and_eq_true]
    refine ⟨List.all_eq_true.mpr fun d hd => ?_, ?_⟩
    · obtain ⟨k, hk, rfl⟩ := List.mem_map.mp hd
      have := (bestLow_spec rs k i).1
      show isI (.int ((bestLow rs k i).2 : Nat)) 0 (i : Nat) = true
      exact isI_int (by omega) (by omega)
    · rw [show (!true) = false from rfl, ends_range, sumOk_some (h := fun k => (bestLow rs k i).1)]
      · rw [if_pos rfl, show (((i : Nat) : Int)).toNat = i from Int.toNat_natCast i, et]
        unfold lowsAt at hlt
        rw [List.map_map] at hlt
        exact decide_eq_true hlt
      · intro k hk
        rw [List.mem_range] at hk
        obtain ⟨b1, b2, _⟩ := bestLow_spec rs k i
        rw [end_low s hn (by omega) hk, ← b2]
  split at hx
  · cases hx
    rename_i hlt
    have ep : PyData.tuple (((highsAt n rs i).map (·.2)).map fun j => .int (j : Nat)) = .tuple ((List.range n).map fun k => .int ((bestHigh rs k i).2 : Nat)) := by unfold highsAt; rw [List.map_map, List.map_map]; rfl
    show isReaM m n ts rs (.tuple [.str "high", .int (i : Nat), .tuple (((highsAt n rs i).map (·.2)).map fun j => .int (j : Nat))]) = true
    have bs := fun k => bestHigh_spec rs k i (by rw [s.rows]; exact il)
    have lr := s.rows
    rw [ep, wd_high, sumR_eq (by omega) (by omega) (by rw [List.length_map, List.length_range]), Bool.and_eq_true]
    refine ⟨List.all_eq_true.mpr fun d hd => ?_, ?_⟩
    · obtain ⟨k, hk, rfl⟩ := List.mem_map.mp hd
      have := bs k
      show isI (.int ((bestHigh rs k i).2 : Nat)) (i : Nat) ((m : Nat) - 1) = true
      exact isI_int (by omega) (by omega)
    · rw [show (!false) = true from rfl, ends_range, sumOk_some (h := fun k => (bestHigh rs k i).1)]
      · rw [if_neg Bool.false_ne_true, show (((i : Nat) : Int)).toNat = i from Int.toNat_natCast i, et]
        unfold highsAt at hlt
        rw [List.map_map] at hlt
        exact decide_eq_true hlt
      · intro k hk
        rw [List.mem_range] at hk
        obtain ⟨b1, b2, b3, _⟩ := bs k
        rw [end_high s hn (by omega) hk, ← b3]
  · cases hx
include z s ht hn in
theorem growth_yes {x : Rea} (h : byGrowthM n ts rs = some x) : isReaM m n ts rs (eRea x) = true := by
  unfold byGrowthM at h
  obtain ⟨t, h1, hx⟩ := List.exists_of_findSome?_eq_some h
  obtain ⟨e, h2, hy⟩ := List.exists_of_findSome?_eq_some hx
  rw [List.mem_range, ht] at h1
  rw [List.mem_range] at h2
  unfold growAt at hy
  split at hy
  · cases hy
    rename_i hlt
    have lr := s.rows
    have bl := fun k => bestLow_spec rs k t
    have bh := fun k => bestHigh_spec rs k e (by omega)
    have ep : PyData.tuple (((List.range n).map fun k => pickAt rs t e k).map ePick) = .tuple ((List.range n).map fun k => ePick (pickAt rs t e k)) := by rw [List.map_map]; rfl
    show isReaM m n ts rs (.tuple [.str "growth", .int (e : Nat), .int (t : Nat), .tuple (((List.range n).map fun k => pickAt rs t e k).map ePick)]) = true
    rw [ep, wd_growth]
    show (isI (.int (e : Nat)) 0 ((m : Nat) - 1) && (isI (.int (t : Nat)) ((e : Nat) + 1) ((m : Nat) - 1) && (decide (((List.range n).map fun k => ePick (pickAt rs t e k)).length = n) && (runOk (okG m rs (e : Nat) (t : Nat)) (nxtG rs) 0 ((List.range n).map fun k => ePick (pickAt rs t e k)).zipIdx && decide (ts.getD (Int.toNat (t : Int)) 0 - ts.getD (Int.toNat (e : Int)) 0 < ((List.range n).map fun k => ePick (pickAt rs t e k)).zipIdx.foldl (nxtG rs) 0))))) = true
    rw [isI_int (by omega) (by omega), isI_int (by omega) (by omega), decide_eq_true (by rw [List.length_map, List.length_range]), Bool.true_and, Bool.true_and, Bool.true_and, zip_range0, run_all, foldl_nxt, Int.zero_add, Int.toNat_natCast, Int.toNat_natCast, Bool.and_eq_true]
    have one : ∀ k, k < n → okG m rs (e : Nat) (t : Nat) 0 (ePick (pickAt rs t e k), k) = true ∧ hG rs (ePick (pickAt rs t e k), k) = max 0 ((bestLow rs k t).1 - (bestHigh rs k e).1) := fun k hk => by
      obtain ⟨l1, l2, _⟩ := bl k
      obtain ⟨g1, g2, g3, _⟩ := bh k
      unfold pickAt
      split
      · rename_i c
        have E1 := end_low s hn (i := (bestLow rs k t).2) (k := k) (by omega) hk
        have E2 := end_high s hn (i := (bestHigh rs k e).2) (k := k) (by omega) hk
        refine ⟨?_, ?_⟩
        · show (isI (.int ((bestLow rs k t).2 : Nat)) 0 (t : Nat) && (isI (.int ((bestHigh rs k e).2 : Nat)) (e : Nat) ((m : Nat) - 1) && ((endV rs (.int ((bestLow rs k t).2 : Nat)) k false).isSome && (endV rs (.int ((bestHigh rs k e).2 : Nat)) k true).isSome))) = true
          rw [isI_int (by omega) (by omega), isI_int (by omega) (by omega), E1, E2]
          rfl
        · show (endV rs (.int ((bestLow rs k t).2 : Nat)) k false).getD 0 - (endV rs (.int ((bestHigh rs k e).2 : Nat)) k true).getD 0 = _
          rw [E1, E2, ← l2, ← g3]
          show (bestLow rs k t).1 - (bestHigh rs k e).1 = _
          omega
      · rename_i c
        exact ⟨rfl, by show (0 : Int) = _; omega⟩
    refine ⟨List.all_eq_true.mpr fun q hq => ?_, ?_⟩
    · obtain ⟨k, hk, rfl⟩ := List.mem_map.mp hq
      rw [List.mem_range] at hk
      exact (one k hk).1
    · refine decide_eq_true ?_
      rw [List.map_map]
      have es : (List.range n).map (hG rs ∘ fun k => (ePick (pickAt rs t e k), k)) = (List.range n).map fun k => max 0 ((bestLow rs k t).1 - (bestHigh rs k e).1) := List.map_congr_left fun k hk => by
        rw [List.mem_range] at hk
        exact (one k hk).2
      rw [es]
      exact hlt
  · cases hy
include z s ht in
/-- a returned reason passes the check -/
theorem rea_yes (hv : ∀ t k p, t < m → k < n → rAt rs t k = some p → p.1 ≤ p.2) {x : Rea} (h : reasonM n ts rs = some x) : isReaM m n ts rs (eRea x) = true := by
  unfold reasonM at h
  cases e1 : missingM rs with
  | some y => rw [e1] at h; cases h; exact miss_yes s e1
  | none =>
    rw [e1] at h
    have hn := missing_none.mp e1
    cases e2 : fallenM n rs with
    | some y => rw [e2] at h; cases h; exact fall_yes s hn hv e2
    | none =>
      rw [e2] at h
      cases e3 : bySumsM n ts rs with
      | some y => rw [e3] at h; cases h; exact sums_yes z s ht hn e3
      | none => rw [e3] at h; exact growth_yes z s ht hn h
end
theorem isReaS_yes {r : Ru} {n : Nat} {ss : List Shot} (G : GoodS r n ss) {x : Rea} (h : reaS r n ss = some x) : isReaS r n ss (eRea x) = true := by
  refine rea_yes G.siz G.shp (by unfold tots; rw [List.length_map]) (fun t k p ht hk hp => ?_) h
  obtain ⟨s, y, h1, h2, hT, _⟩ := G.nums ht hk
  rw [rAt_rngs h1 h2] at hp
  cases y with
  | none => cases hp; show 0 ≤ s.1; omega
  | some i => exact (rangeM_some (show rangeM r s.1 i = some p from hp)).2.2.1
end Pj

set_option Elab.async false
set_option linter.all false
set_option maxRecDepth 100000
/-! Qs: screenshots exchanged. -/
namespace Pj
open PySem PySem.Spec PyProof.Rows L2
def shD (ss : List Shot) (i : Nat) : Shot := ss.getD i (0, [])
def exchP (ss : List Shot) (i j : Nat) (way : Int) : Shot × Shot := if way = 0 then (shD ss j, shD ss i) else (((shD ss i).1, (shD ss j).2), ((shD ss j).1, (shD ss i).2))
def exchL (ss : List Shot) (i j : Nat) (way : Int) : List Shot := (ss.set i (exchP ss i j way).1).set j (exchP ss i j way).2
def exchM (b : Bg) (ss : List Shot) : List Shot × Bg :=
  (exchL ss (takeM b ss.length).1.toNat (takeM (takeM b ss.length).2 ss.length).1.toNat (takeM (takeM (takeM b ss.length).2 ss.length).2 2).1, (takeM (takeM (takeM b ss.length).2 ss.length).2 2).2)
def M_law_exchanged (c : Ct) (ds : List PD) (c' : Ct) (o : PO) : Prop := ∃ (b : Bg) (ss : List Shot), b.ok ∧ (1 ≤ ss.length ∧ ss.length ≤ 100) ∧ c = eBg b ∧ ds = [eShots ss] ∧ c' = eBg (exchM b ss).2 ∧ o = .ok (.va (eShots (exchM b ss).1))
theorem exch_mem {ss : List Shot} {i j : Nat} {way : Int} (hi : i < ss.length) (hj : j < ss.length) {s : Shot} (h : s ∈ exchL ss i j way) : (∃ a ∈ ss, s.1 = a.1) ∧ ∃ a ∈ ss, s.2 = a.2 := by
  have mi : shD ss i ∈ ss := (getD_mem hi).1
  have mj : shD ss j ∈ ss := (getD_mem hj).1
  have two : ∀ s, s = (exchP ss i j way).1 ∨ s = (exchP ss i j way).2 → (∃ a ∈ ss, s.1 = a.1) ∧ ∃ a ∈ ss, s.2 = a.2 := fun s h => by
    unfold exchP at h
    split at h
    · rcases h with rfl | rfl
      · exact ⟨⟨_, mj, rfl⟩, _, mj, rfl⟩
      · exact ⟨⟨_, mi, rfl⟩, _, mi, rfl⟩
    · rcases h with rfl | rfl
      · exact ⟨⟨_, mi, rfl⟩, _, mj, rfl⟩
      · exact ⟨⟨_, mj, rfl⟩, _, mi, rfl⟩
  unfold exchL at h
  rcases List.mem_or_eq_of_mem_set h with h | h
  · rcases List.mem_or_eq_of_mem_set h with h | h
    · exact ⟨⟨_, h, rfl⟩, _, h, rfl⟩
    · exact two s (.inl h)
  · exact two s (.inr h)
theorem exch_ex {r : Ru} {n : Nat} {b : Bg} {ss : List Shot} (h : b.ok) (G : GoodS r n ss) {T : Int} (hT : ∀ s ∈ ss, s.1 ≤ T) : ∃ s2 b', b'.ok ∧ GoodS r n s2 ∧ (∀ s ∈ s2, s.1 ≤ T) ∧ M_law_exchanged (eBg b) [eShots ss] (eBg b') (.ok (.va (eShots s2))) := by
  have cn := G.cnt
  obtain ⟨k1, a1, a2⟩ := takeM_ok h (n := ss.length) (by omega)
  obtain ⟨k2, b1, b2⟩ := takeM_ok k1 (n := ss.length) (by omega)
  obtain ⟨k3, _⟩ := takeM_ok k2 (n := 2) (by decide)
  refine ⟨(exchM b ss).1, (exchM b ss).2, k3, ?_, fun s hs => ?_, b, ss, h, by omega, rfl, rfl, rfl, rfl⟩
  · have key : ∀ s ∈ (exchM b ss).1, (∃ a ∈ ss, s.1 = a.1) ∧ ∃ a ∈ ss, s.2 = a.2 := fun s hs => exch_mem (by omega) (by omega) hs
    have ln : (exchM b ss).1.length = ss.length := by unfold exchM exchL; rw [List.length_set, List.length_set]
    refine ⟨G.rule, G.wide, by rw [ln]; exact G.cnt, fun s hs => ?_, fun s hs => ?_, fun s hs x hx => ?_⟩
    · obtain ⟨⟨a, ha, e⟩, _⟩ := key s hs
      rw [e]; exact G.tot a ha
    · obtain ⟨_, a, ha, e⟩ := key s hs
      rw [e]; exact G.len a ha
    · obtain ⟨_, a, ha, e⟩ := key s hs
      rw [e] at hx; exact G.num a ha x hx
  · obtain ⟨⟨a, ha, e⟩, _⟩ := exch_mem (by omega) (by omega) hs
    rw [e]; exact hT a ha
end Pj

set_option Elab.async false
set_option linter.all false
set_option maxRecDepth 100000
/-! Qt: polls that contradict one another (k11). -/
namespace Pj
open PySem PySem.Spec PyProof.Rows L2
theorem sum_ge_all {a c : Int} : ∀ {v : List Int}, (∀ y ∈ v, a ≤ c * y) → (v.length : Int) * a ≤ c * v.sum
  | [], _ => by simp
  | y :: v, h => by
    have h1 := h y List.mem_cons_self
    have h2 := sum_ge_all (v := v) fun y hy => h y (List.mem_cons_of_mem _ hy)
    rw [List.length_cons, List.sum_cons, Int.mul_add, Int.natCast_add, Int.add_mul]
    show (v.length : Int) * a + 1 * a ≤ _
    omega
theorem sum_le_all {a c : Int} : ∀ {v : List Int}, (∀ y ∈ v, c * y ≤ a) → c * v.sum ≤ (v.length : Int) * a
  | [], _ => by simp
  | y :: v, h => by
    have h1 := h y List.mem_cons_self
    have h2 := sum_le_all (v := v) fun y hy => h y (List.mem_cons_of_mem _ hy)
    rw [List.length_cons, List.sum_cons, Int.mul_add, Int.natCast_add, Int.add_mul]
    show _ ≤ (v.length : Int) * a + 1 * a
    omega
theorem number_near {r : Ru} {v t x : Int} (ht : 0 < t) (h : numberM r v t = x) : (2 * x - 1) * t ≤ 2 * scl r * v ∧ 2 * scl r * v ≤ (2 * x + 1) * t := by
  have a := (numberM_iff (r := r) (v := v) (n := x) ht).mp h
  rw [Int.mul_assoc]
  split at a <;> omega
/-- all numbers the same: what the votes weigh together -/
theorem same_bounds {r : Ru} {s : Shot} {v : List Int} {x : Int} (V : VtS r s v) (ht : 0 < s.1) (hx : ∀ k, k < s.2.length → s.2[k]? = some (some x)) : (s.2.length : Int) * ((2 * x - 1) * s.1) ≤ 2 * scl r * s.1 ∧ 2 * scl r * s.1 ≤ (s.2.length : Int) * ((2 * x + 1) * s.1) := by
  have key : ∀ y ∈ v, (2 * x - 1) * s.1 ≤ 2 * scl r * y ∧ 2 * scl r * y ≤ (2 * x + 1) * s.1 := fun y hy => by
    obtain ⟨k, hk⟩ := List.getElem?_of_mem hy
    have kl := (List.getElem?_eq_some_iff.mp hk).1
    exact number_near ht (V.num k x y (hx k (by rw [← V.len]; exact kl)) hk)
  have h1 := sum_ge_all fun y hy => (key y hy).1
  have h2 := sum_le_all fun y hy => (key y hy).2
  rw [V.sum, V.len] at h1 h2
  exact ⟨h1, h2⟩
theorem full_no {r : Ru} {s : Shot} {v : List Int} (V : VtS r s v) (ht : 0 < s.1) (hn : 2 ≤ s.2.length) (hx : ∀ k, k < s.2.length → s.2[k]? = some (some (scl r))) : False := by
  obtain ⟨h, _⟩ := same_bounds V ht hx
  have sp := scl_pos r
  have hs : scl r = 100 ∨ scl r = 1000 ∨ scl r = 10000 := by unfold scl; split <;> simp
  have p : 0 ≤ (2 * scl r - 1) * s.1 := Int.mul_nonneg (by omega) (by omega)
  have h2 : 2 * ((2 * scl r - 1) * s.1) ≤ (s.2.length : Int) * ((2 * scl r - 1) * s.1) := Int.mul_le_mul_of_nonneg_right (by omega) p
  rcases hs with e | e | e <;> rw [e] at h h2 <;> omega
theorem zero_no {r : Ru} {s : Shot} {v : List Int} (V : VtS r s v) (ht : 0 < s.1) (hn : s.2.length ≤ 6) (hx : ∀ k, k < s.2.length → s.2[k]? = some (some 0)) : False := by
  obtain ⟨_, h⟩ := same_bounds V ht hx
  have h2 : (s.2.length : Int) * ((2 * 0 + 1) * s.1) ≤ 6 * ((2 * 0 + 1) * s.1) := Int.mul_le_mul_of_nonneg_right (by omega) (by omega)
  have hs : scl r = 100 ∨ scl r = 1000 ∨ scl r = 10000 := by unfold scl; split <;> simp
  rcases hs with e | e | e <;> rw [e] at h <;> omega
end Pj

set_option Elab.async false
set_option linter.all false
set_option maxRecDepth 100000
/-! Qv: t[::-1] of a tuple; values that are bent (k08). -/
namespace Pj
open PySem PySem.Spec PyProof.Rows L2
theorem fm_congr {α β : Type} {f g : α → Option β} : ∀ {l : List α}, (∀ k ∈ l, f k = g k) → l.filterMap f = l.filterMap g
  | [], _ => rfl
  | a :: l, h => by rw [List.filterMap_cons, List.filterMap_cons, h a List.mem_cons_self, fm_congr fun k hk => h k (List.mem_cons_of_mem _ hk)]
theorem rev_pick (xs : Array Value) : ((List.range xs.size).filterMap fun (k : Nat) => xs[(((xs.size : Nat) : Int) - 1 + (k : Int) * (-1)).toNat]?).toArray = xs.toList.reverse.toArray := by
  congr 1
  have e : ∀ k ∈ List.range xs.size, xs[(((xs.size : Nat) : Int) - 1 + (k : Int) * (-1)).toNat]? = some (xs.toList.reverse.getD k .none) := fun k hk => by
    rw [List.mem_range] at hk
    have i : (((xs.size : Nat) : Int) - 1 + (k : Int) * (-1)).toNat = xs.size - 1 - k := by omega
    rw [i, ← Array.getElem?_toList, List.getD_eq_getElem?_getD, List.getElem?_reverse (by simpa using hk), Array.length_toList]
    rw [List.getElem?_eq_getElem (by simp; omega)]
    rfl
  rw [fm_congr e]
  show List.filterMap (some ∘ fun k => xs.toList.reverse.getD k .none) _ = _
  rw [List.filterMap_eq_map]
  apply List.ext_getElem?
  intro k
  rw [List.getElem?_map]
  by_cases h : k < xs.size
  · rw [List.getElem?_range h]
    show some (xs.toList.reverse.getD k Value.none) = _
    rw [List.getD_eq_getElem?_getD, List.getElem?_eq_getElem (by simpa using h)]
    rfl
  · rw [List.getElem?_eq_none (by simpa using h), List.getElem?_eq_none (by simpa using h)]
    rfl
section
variable {prog : Program} {w : World} {A : Around} {E : Value → Shared → Prop} {s : Shared}
theorem sliceApplied_rev {sl : Addr} {vl vu vs : Value} {n : Nat} {Q : Int × Int × Nat → Shared → Prop} (hs : s.heap.IsSliceOf sl vl vu vs) (pl : IsPart vl none) (pu : IsPart vu none) (ps : IsPart vs (some (-1)))
    (h : Q ((n : Int) - 1, -1, n) s) : wpAny (model prog w) A (Builtin.Slice.sliceApplied (.ref sl) (pure (n : Int))) Q E s := by
  obtain ⟨os, hos, hcs, hds⟩ := id hs
  unfold Builtin.Slice.sliceApplied Builtin.Slice.sliceFields
  refine wpAny_bind (wpAny_bind (wpAny_field hos hds (x := vl) rfl (wpAny_bind (wpAny_field hos hds (x := vu) rfl (wpAny_bind (wpAny_field hos hds (x := vs) rfl (wpAny_pure ?_)))))))
  refine wpAny_bind (HT.slicePart_ ps ?_)
  show wpAny _ _ (if ((-1 : Int) == 0) = true then _ else _) _ _ s
  rw [if_neg (by decide)]
  refine wpAny_bind (HT.slicePart_ pl (wpAny_bind (HT.slicePart_ pu (wpAny_bind (wpAny_pure ?_)))))
  have e1 : Builtin.Slice.sliceAdjust none none (-1) (n : Int) = ((n : Int) - 1, -1) := rfl
  show wpAny _ _ (match Builtin.Slice.sliceAdjust none none (-1) (n : Int) with | (lo, hi) => pure (lo, (-1 : Int), Builtin.Slice.slicePlaces lo hi (-1))) _ _ s
  rw [e1]
  show wpAny _ _ (pure ((n : Int) - 1, (-1 : Int), Builtin.Slice.slicePlaces ((n : Int) - 1) (-1) (-1))) _ _ s
  have e2 : Builtin.Slice.slicePlaces ((n : Int) - 1) (-1) (-1) = n := by
    unfold Builtin.Slice.slicePlaces
    rw [if_neg (by omega)]
    by_cases c : (n : Int) - 1 > -1
    · rw [if_pos c, show (-(-1 : Int)) = 1 from rfl, Int.ediv_one]; omega
    · rw [if_neg c]; omega
  rw [e2]
  exact wpAny_pure h
theorem getItem_tuple_rev {t sl : Addr} {items : Array Value} {vl vu vs : Value} {Q : Value → Shared → Prop} (ht : IsTup s.heap t items) (hs : s.heap.IsSliceOf sl vl vu vs) (pl : IsPart vl none) (pu : IsPart vu none) (ps : IsPart vs (some (-1)))
    (h : Q (.ref s.heap.objs.size) { s with heap := s.heap.push { cls := .type "tuple", data := .seq items.toList.reverse.toArray } })
    (hsz : items.size ≤ sizeLine) : wpAny (model prog w) A (getItem (.ref t) (.ref sl)) Q E s := by
  have htake : sizeOk (.seq items.toList.reverse.toArray) := by
    show (items.toList.reverse.toArray).size ≤ sizeLine
    rw [List.size_toArray, List.length_reverse, Array.length_toList]
    exact hsz
  obtain ⟨os, hos, hcs, hds⟩ := id hs
  have hTs : s.TypeIs (.ref sl) "slice" := ⟨os, hos, hcs⟩
  unfold getItem
  try with_reducible refine wpAny_holding ?_
  first | refine wpAny_bind (wpAny_pure ?_) | skip
  refine wpAny_bind (wpAny_sequenceKey ht.typeIs (by decide) ?_)
  refine wpAny_bind (wpAny_callSpecial?_slot (name := Str.ofString "__getitem__") ht.typeIs PyProof.Rows.slot_tuple_getitem
    (wpAny_call_entry PyProof.Rows.slot_tuple_getitem ht.typeIs entry_tuple_getitem ?_ (args_tuple_getitem _ _)))
  show wpAny _ _ (Builtin.Tuple.tupleItemsOf (.ref t) >>= _) _ _ s
  refine wpAny_bind (tupleItemsOf_ ht ?_)
  refine wpAny_bind (wpAny_typeOf hTs ?_)
  rw [if_pos (by decide)]
  refine wpAny_bind (sliceApplied_rev hs pl pu ps ?_)
  have hno : ¬ (((((items.size : Nat) : Int) - 1) == 0 && (-1 : Int) == 1 && items.size == items.size) = true) := by
    rw [show ((-1 : Int) == 1) = false from rfl, Bool.and_false, Bool.false_and]
    exact Bool.false_ne_true
  show wpAny _ _ (if ((((items.size : Nat) : Int) - 1) == 0 && (-1 : Int) == 1 && items.size == items.size) = true then _ else _) _ _ s
  rw [if_neg hno, rev_pick]
  first
    | exact wpAny_bind (m := Builtin.Tuple.tupleExact _) (wpAny_newObj_type (wpAny_pure ⟨_, rfl, wpAny_pure h⟩) htake)
    | exact wpAny_bind (m := Builtin.Tuple.tupleExact _) (wpAny_newObj_type (wpAny_bind (wpAny_pure (wpAny_pure ⟨_, rfl, wpAny_pure h⟩))) htake)
end
section
variable {X : Cx} {W : WX} {ρ ρ1 : En} {ds : List PD} {pos : Pos} {e : Expr}
def tRevT (K : PySem.W.Frag) (te : TE) : TE := fun σ H Q => te σ H fun x H1 => ∃ a xs, x = .ref a ∧ SqT K H1 a xs ∧ ∀ p, H1 p = none → Q (.ref p) (upd H1 p (.tup xs.reverse))
theorem pe_revT {e : Expr} {te : TE} {k : Nat} {p1 p2 p3 pos : Pos} (he : PE X e te) : PE X (.Subscript e (.Slice none none (some (.UnaryOp .USub (.Constant (.int 1) k p1) p2)) p3) pos) (tRevT X.K te) := by
  refine ⟨fun pins s σ H Q I h => ?_⟩
  refine Subscript_ (thn (he.run pins s σ H _ I h) fun v s1 ⟨x, H1, I1, r1, q1⟩ => ?_)
  obtain ⟨a, xs, ex, hx, q⟩ := q1
  subst ex
  cases r1
  have hst : L2.PO X (some (.UnaryOp .USub (.Constant (.int 1) k p1) p2)) (tPart (tUn (rU fun i => .int (-i)) (tC (.int 1)))) := po_some (pe_un un_neg pe_int)
  refine wpAny_Slice (thn (po_none.run pins s1 σ H1 (fun o H2 => o = none ∧ H2 = H1) I1 ⟨rfl, rfl⟩) fun vl s2 ⟨l, H2, I2, pl, el, e2⟩ => ?_)
  subst el e2
  refine thn (po_none.run pins s2 σ H2 (fun o H3 => o = none ∧ H3 = H2) I2 ⟨rfl, rfl⟩) fun vu s3 ⟨u, H3, I3, pu, eu, e3⟩ => ?_
  subst eu e3
  refine thn (hst.run pins s3 σ H3 (fun o H4 => o = some (-1) ∧ H4 = H3) I3 ⟨1, rfl, -1, rfl, rfl, rfl⟩) fun vs s4 ⟨o, H4, I4, ps, eo, e4⟩ => ?_
  subst eo e4
  have I5 : Inv X pins σ H4 { s4 with heap := s4.heap.push { cls := .type "slice", data := .fields #[vl, vu, vs] } } := I4.kept (t' := s4.toks) fun b ob q => Heap.get?_push_of_some _ q
  obtain ⟨its, r, ht, hz⟩ := I5.tuple hx
  have hlen := r.length
  show wpAny (model X.prog X.w) X.A (subscriptTail e (.Slice none none (some (.UnaryOp .USub (.Constant (.int 1) k p1) p2)) p3) (.ref a) (.ref s4.heap.objs.size)) (EP X pins σ Q) X.xe { s4 with heap := s4.heap.push { cls := .type "slice", data := .fields #[vl, vu, vs] } }
  refine tail_any (ops := [.ref a, .ref s4.heap.objs.size]) ht.typeIs (PyProof.Rows.slot_tuple_getitem.lookup) ?_ (by with_unfolding_all rfl)
  refine getItem_tuple_rev ht (Heap.IsSliceOf.new _ vl vu vs) pl pu ps ?_ (by rw [List.size_toArray]; omega)
  refine ⟨.ref _, _, I5.laid (t' := s4.toks) (o := .tup xs.reverse) (fun b ob q => Heap.get?_push_of_some _ q) (Nat.le_refl _) ?_, rfl, q _ (I5.hok.fresh (Nat.le_refl _))⟩
  exact ⟨by rw [List.length_reverse]; exact hz, _, r.reverse, IsTup.new _ _⟩
/-- e[::-1], a tuple -/
theorem ej_revT {k : Nat} {q1 q2 q3 : Pos} (he : EJ X W e ρ (.ok ρ1 (.va (.tuple ds)))) : EJ X W (.Subscript e (.Slice none none (some (.UnaryOp .USub (.Constant (.int 1) k q1) q2)) q3) pos) ρ (.ok ρ1 (.va (.tuple ds.reverse))) := by
  obtain ⟨t, h1, h2⟩ := he
  refine ⟨_, pe_revT h1, fun F H σ Q R q => h2 F H σ _ R fun F1 H1 v x1 R1 g => ?_⟩
  cases g.1 with
  | @tup a xs _ hs ha =>
    refine ⟨a, xs, rfl, Same.seqT R1.fh hs, fun p np => ?_⟩
    exact (q.pull x1).fin R1 (Xt.frz R1.fh np) (.tup (.inl (.inl upd_same)) (DpAll.reverse (DpAll.mono ha (same_upd (by
      cases hh : F1 p with
      | none => rfl
      | some o => have := R1.fh p o hh; rw [np] at this; cases this)))))
end

/-! ### values as the law bends them -/
theorem pick_mem {es : List PD} {t : Int} (h0 : 0 ≤ t) (h1 : t < es.length) : pickM es t ∈ es := (getD_mem (l := es) (i := t.toNat) (d := .none) (by omega)).1
/-- tuples nested at most so deep, none of them long -/
def TD : Nat → PD → Prop
  | 0, v => isTup v = false
  | j + 1, v => isTup v = false ∨ ∃ ds, v = .tuple ds ∧ ds.length ≤ 50 ∧ ∀ d ∈ ds, TD j d
theorem tdI : ∀ {j : Nat} {d : PD}, isTup d = false → TD j d
  | 0, _, h => h
  | _ + 1, _, h => .inl h
theorem tdT {j : Nat} {ds : List PD} (h : ds.length ≤ 50) (g : ∀ d ∈ ds, TD j d) : TD (j + 1) (.tuple ds) := .inr ⟨ds, rfl, h, g⟩
theorem tdT2 {j : Nat} {a b : PD} (ha : TD j a) (hb : TD j b) : TD (j + 1) (.tuple [a, b]) := tdT (by show 2 ≤ 50; decide) fun d hd => by
  rcases List.mem_cons.mp hd with rfl | hd
  · exact ha
  rcases List.mem_cons.mp hd with rfl | hd
  · exact hb
  cases hd
theorem tdT3 {j : Nat} {a b c : PD} (ha : TD j a) (hb : TD j b) (hc : TD j c) : TD (j + 1) (.tuple [a, b, c]) := tdT (by show 3 ≤ 50; decide) fun d hd => by
  rcases List.mem_cons.mp hd with rfl | hd
  · exact ha
  rcases List.mem_cons.mp hd with rfl | hd
  · exact hb
  rcases List.mem_cons.mp hd with rfl | hd
  · exact hc
  cases hd
theorem tdT4 {j : Nat} {a b c e : PD} (ha : TD j a) (hb : TD j b) (hc : TD j c) (he : TD j e) : TD (j + 1) (.tuple [a, b, c, e]) := tdT (by show 4 ≤ 50; decide) fun d hd => by
  rcases List.mem_cons.mp hd with rfl | hd
  · exact ha
  rcases List.mem_cons.mp hd with rfl | hd
  · exact hb
  rcases List.mem_cons.mp hd with rfl | hd
  · exact hc
  rcases List.mem_cons.mp hd with rfl | hd
  · exact he
  cases hd
theorem shT3 {a b c : PD} {k : Nat} (ha : ShD k a) (hb : ShD k b) (hc : ShD k c) : ShD (k + 1) (.tuple [a, b, c]) := shT fun d hd => by
  rcases List.mem_cons.mp hd with rfl | hd
  · exact ha
  rcases List.mem_cons.mp hd with rfl | hd
  · exact hb
  rcases List.mem_cons.mp hd with rfl | hd
  · exact hc
  cases hd
theorem shT4 {a b c e : PD} {k : Nat} (ha : ShD k a) (hb : ShD k b) (hc : ShD k c) (he : ShD k e) : ShD (k + 1) (.tuple [a, b, c, e]) := shT fun d hd => by
  rcases List.mem_cons.mp hd with rfl | hd
  · exact ha
  rcases List.mem_cons.mp hd with rfl | hd
  · exact hb
  rcases List.mem_cons.mp hd with rfl | hd
  · exact hc
  rcases List.mem_cons.mp hd with rfl | hd
  · exact he
  cases hd
theorem sd_words : ShD 1 (.str "number") ∧ ShD 1 (.str "option") ∧ ShD 1 (.str "low") ∧ ShD 1 (.str "high") ∧ ShD 1 (.str "growth") :=
  ⟨⟨by decide +kernel, by unfold PyData.depth; decide⟩, ⟨by decide +kernel, by unfold PyData.depth; decide⟩, ⟨by decide +kernel, by unfold PyData.depth; decide⟩, ⟨by decide +kernel, by unfold PyData.depth; decide⟩, ⟨by decide +kernel, by unfold PyData.depth; decide⟩⟩
theorem word_sd {x : PD} (h : ShD 60 x) : wordOk x := fun w rest e => by
  subst e
  exact (shT_in h List.mem_cons_self).shaped (by decide)
def oddL8 : List PD := [.int 0, .int 1, .int 2, .int (-1), .bool true, .none, .str "low", .str "growth", .tuple [], .tuple [.int 0], .tuple [.int 0, .int 1], .list [.int 0, .int 1]]
theorem odd_sh : ∀ d ∈ oddL8, ShD 3 d := fun d hd => by
  have two : ∀ d ∈ [PyData.int 0, .int 1], ShD 1 d := fun d hd => by
    rcases List.mem_cons.mp hd with rfl | hd
    · exact shI
    rcases List.mem_cons.mp hd with rfl | hd
    · exact shI
    cases hd
  unfold oddL8 at hd
  rcases List.mem_cons.mp hd with rfl | hd
  · exact shI.mono (by decide)
  rcases List.mem_cons.mp hd with rfl | hd
  · exact shI.mono (by decide)
  rcases List.mem_cons.mp hd with rfl | hd
  · exact shI.mono (by decide)
  rcases List.mem_cons.mp hd with rfl | hd
  · exact shI.mono (by decide)
  rcases List.mem_cons.mp hd with rfl | hd
  · exact shB.mono (by decide)
  rcases List.mem_cons.mp hd with rfl | hd
  · exact shN.mono (by decide)
  rcases List.mem_cons.mp hd with rfl | hd
  · exact sd_words.2.2.1.mono (by decide)
  rcases List.mem_cons.mp hd with rfl | hd
  · exact sd_words.2.2.2.2.mono (by decide)
  rcases List.mem_cons.mp hd with rfl | hd
  · exact shT fun d hd => by cases hd
  rcases List.mem_cons.mp hd with rfl | hd
  · exact (shT (k := 1) fun d hd => two d (by rcases List.mem_cons.mp hd with rfl | hd; exact List.mem_cons_self; cases hd)).mono (by decide)
  rcases List.mem_cons.mp hd with rfl | hd
  · exact (shT two).mono (by decide)
  rcases List.mem_cons.mp hd with rfl | hd
  · exact (shL two).mono (by decide)
  cases hd
def bentO8 (b : Bg) : PD × Bg := (pickM oddL8 (takeM b 12).1, (takeM b 12).2)
def bentV8 : Nat → Bg → PD → PD × Bg
  | 0, b, _ => bentO8 b
  | j + 1, b, v => match v with
    | .tuple ds =>
      if ds = [] then bentO8 b
      else if (takeM b 6).1 = 0 then bentO8 (takeM b 6).2
      else if (takeM (takeM (takeM b 6).2 ds.length).2 8).1 = 0 then (.tuple (ds.take (takeM (takeM b 6).2 ds.length).1.toNat ++ ds.drop ((takeM (takeM b 6).2 ds.length).1.toNat + 1)), (takeM (takeM (takeM b 6).2 ds.length).2 8).2)
      else if (takeM (takeM (takeM b 6).2 ds.length).2 8).1 = 1 then (.tuple (ds.take ((takeM (takeM b 6).2 ds.length).1.toNat + 1) ++ ds.drop (takeM (takeM b 6).2 ds.length).1.toNat), (takeM (takeM (takeM b 6).2 ds.length).2 8).2)
      else if (takeM (takeM (takeM b 6).2 ds.length).2 8).1 = 2 then (.list ds, (takeM (takeM (takeM b 6).2 ds.length).2 8).2)
      else (.tuple (ds.take (takeM (takeM b 6).2 ds.length).1.toNat ++ [(bentV8 j (takeM (takeM (takeM b 6).2 ds.length).2 8).2 (ds.getD (takeM (takeM b 6).2 ds.length).1.toNat .none)).1] ++ ds.drop ((takeM (takeM b 6).2 ds.length).1.toNat + 1)), (bentV8 j (takeM (takeM (takeM b 6).2 ds.length).2 8).2 (ds.getD (takeM (takeM b 6).2 ds.length).1.toNat .none)).2)
    | _ => bentO8 b
def M_bent8 (j : Nat) (c : Ct) (ds : List PD) (c' : Ct) (o : PO) : Prop := ∃ (b : Bg) (v : PD), b.ok ∧ TD j v ∧ ShD 30 v ∧ c = eBg b ∧ ds = [v] ∧ c' = eBg (bentV8 j b v).2 ∧ o = .ok (.va (bentV8 j b v).1)
theorem m_bent8 {j : Nat} {b : Bg} {v : PD} (h : b.ok) (ht : TD j v) (hs : ShD 30 v) : M_bent8 j (eBg b) [v] (eBg (bentV8 j b v).2) (.ok (.va (bentV8 j b v).1)) := ⟨b, v, h, ht, hs, rfl, rfl, rfl, rfl⟩
theorem bentO8_ok {b : Bg} (h : b.ok) {k : Nat} (hk : 3 ≤ k) : (bentO8 b).2.ok ∧ ShD k (bentO8 b).1 := by
  obtain ⟨a1, a2, a3⟩ := takeM_ok h (n := 12) (by decide)
  exact ⟨a1, (odd_sh _ (pick_mem a2 a3)).mono hk⟩
theorem bentV8_ok : ∀ {j : Nat} {b : Bg} {v : PD} {k : Nat}, b.ok → TD j v → ShD k v → 3 ≤ k → (bentV8 j b v).2.ok ∧ ShD (k + j) (bentV8 j b v).1
  | 0, b, v, k, h, ht, hs, hk => bentO8_ok h hk
  | j + 1, b, v, k, h, ht, hs, hk => by
    have other : (bentO8 b).2.ok ∧ ShD (k + (j + 1)) (bentO8 b).1 := bentO8_ok h (by omega)
    rcases ht with ht | ⟨ds, rfl, hl, ht⟩
    · cases v with
      | tuple ds => cases ht
      | _ => exact other
    · have hm : ∀ d ∈ ds, ShD k d := fun d hd => shT_in hs hd
      show (if ds = [] then _ else _ : PD × Bg).2.ok ∧ ShD (k + (j + 1)) (if ds = [] then _ else _ : PD × Bg).1
      by_cases c0 : ds = []
      · rw [if_pos c0]; exact other
      rw [if_neg c0]
      have hp : 0 < ds.length := List.length_pos_iff.mpr c0
      obtain ⟨a1, a2, a3⟩ := takeM_ok h (n := 6) (by decide)
      by_cases c1 : (takeM b 6).1 = 0
      · rw [if_pos c1]; exact bentO8_ok a1 (by omega)
      rw [if_neg c1]
      obtain ⟨b1, b2, b3⟩ := takeM_ok a1 (n := ds.length) (by omega)
      obtain ⟨c1, c2, c3⟩ := takeM_ok b1 (n := 8) (by decide)
      generalize takeM (takeM b 6).2 ds.length = p at *
      generalize takeM p.2 8 = q at *
      have sl : ∀ l : List PD, (∀ d ∈ l, d ∈ ds) → ShD (k + (j + 1)) (.tuple l) := fun l hl => (shT fun d hd => hm d (hl d hd)).mono (by omega)
      by_cases w0 : q.1 = 0
      · rw [if_pos w0]
        refine ⟨c1, sl _ fun d hd => ?_⟩
        rcases List.mem_append.mp hd with hd | hd
        · exact List.mem_of_mem_take hd
        · exact List.mem_of_mem_drop hd
      rw [if_neg w0]
      by_cases w1 : q.1 = 1
      · rw [if_pos w1]
        refine ⟨c1, sl _ fun d hd => ?_⟩
        rcases List.mem_append.mp hd with hd | hd
        · exact List.mem_of_mem_take hd
        · exact List.mem_of_mem_drop hd
      rw [if_neg w1]
      by_cases w2 : q.1 = 2
      · rw [if_pos w2]
        exact ⟨c1, (shL hm).mono (by omega)⟩
      rw [if_neg w2]
      have hd0 := (getD_mem (l := ds) (i := p.1.toNat) (d := .none) (by omega)).1
      obtain ⟨e1, e2⟩ := bentV8_ok (j := j) c1 (ht _ hd0) (hm _ hd0) hk
      refine ⟨e1, (shT (k := k + j) fun d hd => ?_).mono (by omega)⟩
      rcases List.mem_append.mp hd with hd | hd
      · rcases List.mem_append.mp hd with hd | hd
        · exact (hm d (List.mem_of_mem_take hd)).mono (by omega)
        · rcases List.mem_cons.mp hd with rfl | hd
          · exact e2
          · cases hd
      · exact (hm d (List.mem_of_mem_drop hd)).mono (by omega)
/-! ### a drawn tuple in the form of a reason -/
def row2 (one : Int) (b : Bg) (p : Int) : PD × Bg := (pickM [.int (min one p), .int (min one p), .none, .int p] (takeM b 4).1, (takeM b 4).2)
def pair4 (m : Nat) (one other : Int) (b : Bg) (p : Int) : PD := .tuple [.int (min p (max one other)), .int (max (takeM b m).1 (min one other))]
def row4 (m : Nat) (one other : Int) (b : Bg) (p : Int) : PD × Bg := (pickM [pair4 m one other b p, pair4 m one other b p, pair4 m one other b p, .none, .tuple [.int p, .int one]] (takeM (takeM b m).2 5).1, (takeM (takeM b m).2 5).2)
def drawnW8 (m n : Nat) (one other : Int) (pl : List Int) (w : Int) (b : Bg) : PD × Bg :=
  if w = 0 then (.tuple [.str "number", .int one, .int (takeM b n).1], (takeM b n).2)
  else if w = 1 then (.tuple [.str "option", .int (takeM b n).1, .int (min one other), .int (max one other)], (takeM b n).2)
  else if w = 2 then (.tuple [.str "low", .int one, .tuple (mapS (row2 one) pl b).1], (mapS (row2 one) pl b).2)
  else if w = 3 then
    (if (takeM b 3).1 = 0 then (.tuple [.str "high", .int one, .tuple ((pl.map fun p => .int (max one p)).set (takeM (takeM (takeM b 3).2 2).2 n).1.toNat (pickM [.none, .int (pl.getD 0 0)] (takeM (takeM b 3).2 2).1))], (takeM (takeM (takeM b 3).2 2).2 n).2)
    else (.tuple [.str "high", .int one, .tuple (pl.map fun p => .int (max one p))], (takeM b 3).2))
  else (.tuple [.str "growth", .int (min one other), .int (max one other), .tuple (mapS (row4 m one other) pl b).1], (mapS (row4 m one other) pl b).2)
def drawnM8 (m n : Nat) (b : Bg) : PD × Bg :=
  drawnW8 m n (takeM b m).1 (takeM (takeM b m).2 m).1 (drawsM n m (takeM (takeM b m).2 m).2).1 (takeM (drawsM n m (takeM (takeM b m).2 m).2).2 5).1 (takeM (drawsM n m (takeM (takeM b m).2 m).2).2 5).2
def M_law_drawn8 (c : Ct) (ds : List PD) (c' : Ct) (o : PO) : Prop := ∃ (b : Bg) (ss : List Shot) (n : Nat), b.ok ∧ (1 ≤ ss.length ∧ ss.length ≤ 100) ∧ (2 ≤ n ∧ n ≤ 50) ∧ (∀ s ∈ ss, s.2.length = n) ∧ c = eBg b ∧ ds = [eShots ss] ∧ c' = eBg (drawnM8 ss.length n b).2 ∧ o = .ok (.va (drawnM8 ss.length n b).1)
/-- fit for being bent -/
def Val (v : PD) : Prop := ShD 5 v ∧ TD 4 v
theorem mem4 {a b c e d : PD} {P : PD → Prop} (ha : P a) (hb : P b) (hc : P c) (he : P e) (h : d ∈ [a, b, c, e]) : P d := by
  rcases List.mem_cons.mp h with rfl | h
  · exact ha
  rcases List.mem_cons.mp h with rfl | h
  · exact hb
  rcases List.mem_cons.mp h with rfl | h
  · exact hc
  rcases List.mem_cons.mp h with rfl | h
  · exact he
  cases h
section
variable {m n : Nat} {b : Bg}
theorem row2_ok {one : Int} {pl : List Int} (h : b.ok) : (mapS (row2 one) pl b).2.ok ∧ ∀ d ∈ (mapS (row2 one) pl b).1, ShD 1 d ∧ isTup d = false := by
  obtain ⟨h1, h2⟩ := mapS_inv (f := row2 one) Bg.ok (fun _ d => ShD 1 d ∧ isTup d = false) (l := pl) (s := b) h fun a b _ k => by
    obtain ⟨q1, q2, q3⟩ := takeM_ok k (n := 4) (by decide)
    exact ⟨mem4 (P := fun d => ShD 1 d ∧ isTup d = false) ⟨shI, rfl⟩ ⟨shI, rfl⟩ ⟨shN, rfl⟩ ⟨shI, rfl⟩ (pick_mem (es := [.int (min one a), .int (min one a), .none, .int a]) q2 q3), q1⟩
  refine ⟨h1, fun d hd => ?_⟩
  obtain ⟨i, hi⟩ := List.mem_iff_getElem?.mp hd
  have il := (List.getElem?_eq_some_iff.mp hi).1
  rw [mapS_length] at il
  exact h2 i _ d (List.getElem?_eq_getElem il) hi
theorem row4_ok {one other : Int} {pl : List Int} (h : b.ok) (hm : 0 < m) : (mapS (row4 m one other) pl b).2.ok ∧ ∀ d ∈ (mapS (row4 m one other) pl b).1, ShD 2 d ∧ TD 1 d := by
  obtain ⟨h1, h2⟩ := mapS_inv (f := row4 m one other) Bg.ok (fun _ d => ShD 2 d ∧ TD 1 d) (l := pl) (s := b) h fun a b _ k => by
    obtain ⟨p1, p2, p3⟩ := takeM_ok k (n := m) (by omega)
    obtain ⟨q1, q2, q3⟩ := takeM_ok p1 (n := 5) (by decide)
    have pr : ∀ x y : Int, ShD 2 (.tuple [.int x, .int y]) ∧ TD 1 (.tuple [.int x, .int y]) := fun x y => ⟨shT2 shI shI, tdT2 (tdI rfl) (tdI rfl)⟩
    have mm := pick_mem (es := [pair4 m one other b a, pair4 m one other b a, pair4 m one other b a, .none, .tuple [.int a, .int one]]) q2 q3
    refine ⟨?_, q1⟩
    rcases List.mem_cons.mp mm with e | mm
    · show ShD 2 (pickM _ _) ∧ TD 1 (pickM _ _)
      rw [e]; exact pr _ _
    · exact mem4 (P := fun d => ShD 2 d ∧ TD 1 d) (pr _ _) (pr _ _) ⟨shN.mono (by decide), tdI rfl⟩ (pr _ _) mm
  refine ⟨h1, fun d hd => ?_⟩
  obtain ⟨i, hi⟩ := List.mem_iff_getElem?.mp hd
  have il := (List.getElem?_eq_some_iff.mp hi).1
  rw [mapS_length] at il
  exact h2 i _ d (List.getElem?_eq_getElem il) hi
theorem flat_val {l : List PD} (hl : l.length ≤ 50) (h : ∀ d ∈ l, ShD 2 d ∧ TD 1 d) : ShD 3 (.tuple l) ∧ TD 2 (.tuple l) := ⟨shT fun d hd => (h d hd).1, tdT hl fun d hd => (h d hd).2⟩
theorem drawnM8_ok (h : b.ok) (hm : 0 < m) (hn : 0 < n ∧ n ≤ 50) : (drawnM8 m n b).2.ok ∧ Val (drawnM8 m n b).1 := by
  have k1 := (takeM_ok h (n := m) (by omega)).1
  have k2 := (takeM_ok k1 (n := m) (by omega)).1
  obtain ⟨k3, pl⟩ := drawsM_ok (n := n) k2 (w := m) (by omega)
  have k4 := (takeM_ok k3 (n := 5) (by decide)).1
  obtain ⟨s1, s2, s3, s4, s5⟩ := sd_words
  have I : ∀ {x : Int}, ShD 3 (.int x) := shI.mono (by decide)
  unfold drawnM8
  generalize (takeM (drawsM n m (takeM (takeM b m).2 m).2).2 5).2 = q at *
  generalize (drawsM n m (takeM (takeM b m).2 m).2).1 = rows at *
  have t3 : ∀ {w : Str} {x : Int} {l : List PD}, ShD 1 (.str w) → l.length ≤ 50 → (∀ d ∈ l, ShD 2 d ∧ TD 1 d) → Val (.tuple [.str w, .int x, .tuple l]) := fun hw hl hd =>
    ⟨(shT3 (hw.mono (by decide)) I (flat_val hl hd).1).mono (by decide), tdT3 (j := 3) (tdI rfl) (tdI rfl) (tdT hl fun d h => by
      rcases (hd d h).2 with z | ⟨ds, rfl, g1, g2⟩
      · exact tdI z
      · exact tdT g1 fun d h => tdI (g2 d h))⟩
  have mx : ∀ d ∈ (rows.map fun p => PyData.int (max (takeM b m).1 p)), ShD 2 d ∧ TD 1 d := fun d hd => by
    obtain ⟨x, _, rfl⟩ := List.mem_map.mp hd
    exact ⟨shI.mono (by decide), tdI rfl⟩
  unfold drawnW8
  split
  · exact ⟨(takeM_ok k4 (n := n) (by omega)).1, (shT3 (k := 1) s1 shI shI).mono (by decide), tdT3 (j := 3) (tdI rfl) (tdI rfl) (tdI rfl)⟩
  split
  · exact ⟨(takeM_ok k4 (n := n) (by omega)).1, (shT4 (k := 1) s2 shI shI shI).mono (by decide), tdT4 (j := 3) (tdI rfl) (tdI rfl) (tdI rfl) (tdI rfl)⟩
  split
  · obtain ⟨g1, g2⟩ := row2_ok (one := (takeM b m).1) (pl := rows) k4
    exact ⟨g1, t3 s3 (by rw [mapS_length]; omega) fun d hd => ⟨(g2 d hd).1.mono (by decide), tdI (g2 d hd).2⟩⟩
  split
  · have l0 := (takeM_ok k4 (n := 3) (by decide)).1
    split
    · obtain ⟨u1, u2, u3⟩ := takeM_ok l0 (n := 2) (by decide)
      refine ⟨(takeM_ok u1 (n := n) (by omega)).1, t3 s4 (by rw [List.length_set, List.length_map]; omega) fun d hd => ?_⟩
      rcases List.mem_or_eq_of_mem_set hd with hd | rfl
      · exact mx d hd
      · rcases List.mem_cons.mp (pick_mem (es := [.none, .int (rows.getD 0 0)]) u2 u3) with e | e
        · rw [e]; exact ⟨shN.mono (by decide), tdI rfl⟩
        · rcases List.mem_cons.mp e with e | e
          · rw [e]; exact ⟨shI.mono (by decide), tdI rfl⟩
          · cases e
    · exact ⟨l0, t3 s4 (by rw [List.length_map]; omega) mx⟩
  · obtain ⟨g1, g2⟩ := row4_ok (one := (takeM b m).1) (other := (takeM (takeM b m).2 m).1) (pl := rows) k4 hm
    refine ⟨g1, (shT4 (k := 3) (s5.mono (by decide)) I I (flat_val (by rw [mapS_length]; omega) g2).1).mono (by decide), tdT4 (j := 3) (tdI rfl) (tdI rfl) (tdI rfl) (tdT (by rw [mapS_length]; omega) fun d h => ?_)⟩
    rcases (g2 d h).2 with z | ⟨ds, rfl, g1, g2⟩
    · exact tdI z
    · exact tdT g1 fun d h => tdI (g2 d h)
end
/-! ### returned reasons -/
theorem places_len {many : Nat} {lo hi : Int} {opt : Bool} {l : List PD} (h : arePlaces many lo hi opt (.tuple l) = true) : l.length = many := by
  unfold arePlaces at h
  rw [Bool.and_eq_true, decide_eq_true_eq] at h
  exact h.1
theorem rea_val {r : Ru} {n : Nat} {ss : List Shot} (G : GoodS r n ss) {x : Rea} (h : reaS r n ss = some x) : Val (eRea x) := by
  have y := isReaS_yes G h
  obtain ⟨s1, s2, s3, s4, s5⟩ := sd_words
  have w := G.wide
  have I : ∀ {x : Int}, ShD 3 (.int x) := shI.mono (by decide)
  cases x with
  | num i k => exact ⟨(shT3 (k := 1) s1 shI shI).mono (by decide), tdT3 (j := 3) (tdI rfl) (tdI rfl) (tdI rfl)⟩
  | opt k f s => exact ⟨(shT4 (k := 1) s2 shI shI shI).mono (by decide), tdT4 (j := 3) (tdI rfl) (tdI rfl) (tdI rfl) (tdI rfl)⟩
  | low i ps =>
    have y : isSumR ss.length n (tots ss) (rngs r ss) true (.int i) (.tuple (ps.map fun j => .int (j : Nat))) = true := by rw [← wd_low]; exact y
    unfold isSumR at y
    rw [Bool.and_eq_true, Bool.and_eq_true] at y
    have l := places_len y.2.1
    exact ⟨(shT3 (k := 2) (s3.mono (by decide)) (shI.mono (by decide)) (shTm fun _ _ => shI)).mono (by decide), tdT3 (j := 3) (tdI rfl) (tdI rfl) (tdT (by omega) fun d hd => by
      obtain ⟨_, _, rfl⟩ := List.mem_map.mp hd; exact tdI rfl)⟩
  | high i ps =>
    have y : isSumR ss.length n (tots ss) (rngs r ss) false (.int i) (.tuple (ps.map fun j => .int (j : Nat))) = true := by rw [← wd_high]; exact y
    unfold isSumR at y
    rw [Bool.and_eq_true, Bool.and_eq_true] at y
    have l := places_len y.2.1
    exact ⟨(shT3 (k := 2) (s4.mono (by decide)) (shI.mono (by decide)) (shTm fun _ _ => shI)).mono (by decide), tdT3 (j := 3) (tdI rfl) (tdI rfl) (tdT (by omega) fun d hd => by
      obtain ⟨_, _, rfl⟩ := List.mem_map.mp hd; exact tdI rfl)⟩
  | growth f s ps =>
    have y : isGrowR ss.length n (tots ss) (rngs r ss) (.int f) (.int s) (.tuple (ps.map ePick)) = true := by rw [← wd_growth]; exact y
    unfold isGrowR at y
    rw [Bool.and_eq_true, Bool.and_eq_true, Bool.and_eq_true, decide_eq_true_eq] at y
    have l := y.2.2.1
    have pk : ∀ p : Option (Nat × Nat), ShD 2 (ePick p) ∧ TD 1 (ePick p) := fun p => by
      cases p with
      | none => exact ⟨shN.mono (by decide), tdI rfl⟩
      | some p => exact ⟨shT2 shI shI, tdT2 (tdI rfl) (tdI rfl)⟩
    refine ⟨(shT4 (k := 3) (s5.mono (by decide)) I I (shTm fun p _ => (pk p).1)).mono (by decide), tdT4 (j := 3) (tdI rfl) (tdI rfl) (tdI rfl) (tdT (by omega) fun d hd => ?_)⟩
    obtain ⟨p, _, rfl⟩ := List.mem_map.mp hd
    rcases (pk p).2 with z | ⟨ds, e, g1, g2⟩
    · exact tdI z
    · rw [e]; exact tdT g1 fun d h => tdI (g2 d h)
end Pj

set_option Elab.async false
set_option linter.all false
set_option maxRecDepth 100000
/-! Qw: sorted lists of (length, tuple of ints); an own list walked in an expression; list += list. -/
namespace Pj
open PySem PySem.Spec PyProof.Rows L2
/-! ### the order of lots -/
def encL (x : List Int) : PD := .tuple [.int (x.length : Nat), .tuple (x.map .int)]
def leS (p q : List Int) : Bool := decide (p.length < q.length ∨ (p.length = q.length ∧ p ≤ q))
theorem alike_ints2 (p q : List Int) : PySem.W.alike (.tuple (p.map .int)) (.tuple (q.map .int)) = true := by
  have := PySem.W.alike_ints p q
  simpa [PySem.W.alike] using this
theorem alike_encL (p q : List Int) : PySem.W.alike (encL p) (encL q) = true := by
  have := alike_ints2 p q
  unfold encL
  simp only [PySem.W.alike, PySem.W.alikeAll] at this ⊢
  simp [this]
theorem dataLe_encL : PySem.W.dataLe false encL = leS := by
  funext p q
  show (!PySem.W.dataLt (encL q) (encL p)) = leS p q
  unfold encL leS
  rw [PySem.W.dataLt_pair (by simp [PySem.W.alike]) (alike_ints2 q p), PySem.W.dataLt_int, PySem.W.dataLt_tuple]
  have e2 := PySem.W.dataLt_ints q p
  unfold PySem.W.rowLt at e2
  rw [e2]
  have e3 : PyData.eqv (.tuple (q.map .int)) (.tuple (p.map .int)) = decide (q = p) := by
    have nb : ∀ l : List Int, noB (.tuple (l.map .int)) = true := fun l => show noBs (l.map .int) = true from noBs_map fun _ _ => rfl
    by_cases c : q = p
    · subst c; rw [decide_eq_true rfl]; exact eqv_self (nb _)
    · rw [decide_eq_false c]
      refine eqv_no (nb _) (nb _) fun h => ?_
      injection h with h
      exact c (map_inj (fun a b h => by injection h) h)
  rw [e3, eqv_int]
  by_cases c : q.length = p.length
  · rw [if_pos (decide_eq_true (by omega))]
    by_cases c2 : q = p
    · subst c2
      rw [if_pos (decide_eq_true rfl)]
      exact (decide_eq_true (.inr ⟨rfl, List.le_refl _⟩)).symm
    · rw [if_neg (by simpa using c2)]
      by_cases c3 : q < p
      · rw [decide_eq_true c3, decide_eq_false (by
          rintro (h | ⟨_, h⟩)
          · omega
          · exact List.not_lt.mpr h c3)]
        rfl
      · rw [decide_eq_false c3, decide_eq_true (.inr ⟨c.symm, List.not_lt.mp c3⟩)]
        rfl
  · rw [if_neg (by simp; omega)]
    by_cases c2 : q.length < p.length
    · rw [decide_eq_true (by omega), decide_eq_false (by omega)]; rfl
    · rw [decide_eq_false (by omega), decide_eq_true (.inl (by omega))]; rfl
theorem leS_trans (a b c : List Int) (h : leS a b = true) (g : leS b c = true) : leS a c = true := by
  unfold leS at *
  rw [decide_eq_true_eq] at *
  rcases h with h | ⟨h1, h2⟩
  · exact .inl (by omega)
  · rcases g with g | ⟨g1, g2⟩
    · exact .inl (by omega)
    · exact .inr ⟨by omega, List.le_trans h2 g2⟩
theorem leS_total (a b : List Int) : (leS a b || leS b a) = true := by
  unfold leS
  rw [Bool.or_eq_true, decide_eq_true_eq, decide_eq_true_eq]
  by_cases h : a.length < b.length
  · exact .inl (.inl h)
  by_cases g : b.length < a.length
  · exact .inr (.inl g)
  by_cases c : b < a
  · exact .inr (.inr ⟨by omega, List.le_of_lt c⟩)
  · exact .inl (.inr ⟨by omega, List.not_lt.mp c⟩)
/-! ### sorted(lots) -/
theorem each_reads {X : Cx} {pins : List (Addr × Obj)} {σ : L2.St} {G H : Hp} {s : Shared} (I : Inv X pins σ H s) (sm : Same G H) {β : Type} (enc : β → PD) : ∀ {xs : List V} {us : List Value} {bs : List β}, Vals xs us → DpAll X.K G xs (bs.map enc) →
    PySem.W.EachIs (fun u b => ∃ x, RelV x u ∧ Dp X.K G x (enc b)) us bs ∧ PySem.W.EachIs (fun u b => ∃ as, Reads s.heap u (enc b) as) us bs
  | _, _, [], .nil, _ => ⟨.nil, .nil⟩
  | _, _, _ :: _, .nil, h => by cases h
  | _, _, [], .cons _ _, h => by cases h
  | _, _, b :: bs, .cons r rs, h => by
    cases h with
    | cons h1 h2 =>
      obtain ⟨e1, e2⟩ := each_reads I sm enc rs h2
      exact ⟨.cons ⟨_, r, h1⟩ e1, .cons (Dp.reads I _ _ _ (Dp.mono h1 sm) r) e2⟩
theorem each_back {K : PySem.W.Frag} {H : Hp} {β : Type} (enc : β → PD) : ∀ {us : List Value} {bs : List β}, PySem.W.EachIs (fun u b => ∃ x, RelV x u ∧ Dp K H x (enc b)) us bs → ∃ xs, Vals xs us ∧ DpAll K H xs (bs.map enc)
  | _, _, .nil => ⟨[], .nil, .nil⟩
  | _, _, .cons ⟨x, r, d⟩ t => by
    obtain ⟨xs, h1, h2⟩ := each_back enc t
    exact ⟨x :: xs, .cons r h1, .cons d h2⟩
def rSortL (K : PySem.W.Frag) : List V → Hp → VK → Prop := fun vs H Q => ∃ (G : Hp) (a : Addr) (xs : List V) (bs : List (List Int)), vs = [V.ref a] ∧ SqL K H a xs ∧ Same G H ∧ DpAll K G xs (bs.map encL) ∧ bs.length ≤ sizeLine ∧
  ∀ ys, DpAll K G ys ((bs.mergeSort leS).map encL) → ∀ p, H p = none → Q (.ref p) (upd H p (.lst ys))
section
variable {X : Cx} {W : WX} {lv : Nat} {a b e c : Expr} {ρ ρ1 ρ2 : En} {ds es : List PD} {pos p pos' : Pos} {bs : List (List Int)} {n : Str}
theorem cr_sortL (hu : X.A.units + 65 < cLine) : CallR X (.builtin "sorted") (rSortL X.K) := by
  intro pins s σ H vs us Q I r h
  obtain ⟨G, a, xs, bs, rfl, hs, sm, hd, hz, q⟩ := h
  obtain ⟨its, rv, pl, _⟩ := I.list hs
  rw [Vals.ref1 r]
  obtain ⟨e1, e2⟩ := each_reads I sm encL rv hd
  refine PySem.W.sorted_data pl.isList e1 e2 (PySem.W.AllAlike.of alike_encL) (PySem.W.Sortable.tuples fun b => ⟨_, _, rfl⟩) hz (fun b _ => ?_) fun out ho eo => ?_
  · have : (encL b).depth ≤ 3 := (shT2 (k := 2) (shI.mono (by decide)) (shTm fun _ _ => shI)).2
    omega
  · rw [dataLe_encL] at eo
    obtain ⟨ys, v1, v2⟩ := each_back encL eo
    obtain ⟨c, hc⟩ := PyProof.Rows.sortedAll_at s.heap its out.toArray
    have ly : ys.length ≤ sizeLine := by rw [v1.length, ho]; exact hz
    refine ⟨.ref _, _, I.laid (t' := s.toks) (o := .lst ys) (fun b o q => PyProof.Rows.sortedAll_old q) (Nat.le_succ _) ?_, rfl, q ys v2 _ (I.hok.fresh (Nat.le_succ _))⟩
    exact ⟨ly, out, c, v1, hc⟩
theorem pc_sortL {K : PySem.W.Frag} (hz : bs.length ≤ sizeLine) : PC K (rSortL K) [.list (bs.map encL)] (.ow (.lst ((bs.mergeSort leS).map encL))) := fun F H vs Q e hx q => by
  cases hx with
  | cons r hx =>
    cases hx
    cases r with
    | lst h1 h2 =>
      -- the sorted items stand in F, too
      refine ⟨F, _, _, bs, rfl, Same.seq e h1, e, h2, hz, fun ys hy p np => ?_⟩
      have nf : F p = none := by
        cases hh : F p with
        | none => rfl
        | some o => have := e p o hh; rw [np] at this; cases this
      exact q F _ _ (Xt.own e np) ⟨p, .lst ys, rfl, nf, upd_same, hy, np⟩
theorem ej_sortL (C : Ok X W lv) (hm : X.mg "sorted" = none) (ha : EJ X W a ρ (.ok ρ1 (.va (.list (bs.map encL))))) (hz : bs.length ≤ sizeLine) (hg : Gl X "sorted" := by rfl) (he : starEach [a] X.env = (false, eval a X.env) :: starEach [] X.env := by rfl) (hpl : (backTo pos (starEach [] X.env)).any (·.1) = false := by rfl) :
    EJ X W (.Call (.Name "sorted" p) [a] [] pos) ρ (.ok ρ1 (.ow (.lst ((bs.mergeSort leS).map encL)))) := ej_blt (cr_sortL C.u65) hm (aj_cons ha aj_nil he) (pc_sortL hz) (by decide +kernel) hg (by decide) (by decide) he hpl
theorem sj_augL (m : Nat) {ds0 : List PD} (C : Ok X W lv) (he : EJ X W e ρ (.ok ρ1 (.ow (.lst es)))) (hz : ds.length + es.length ≤ sizeLine) (hd : ρ1[m]? = some (.ow (.lst ds)) := by rfl) (hd0 : ρ[m]? = some (.ow (.lst ds0)) := by rfl) (hi : X.N[m]? = some n := by rfl) (hx : Loc X.env.scope n := by first | exact Or.inl rfl | exact Or.inr rfl)
    (hf : X.fn n = true ∨ X.env.scope.names.lookup n = some .local := by first | exact .inl rfl | exact .inr rfl) : SJ X W (.AugAssign (.Name n pos') .Add e pos) ρ (.nx (ρ1.set m (.ow (.lst (ds ++ es))))) := by
  obtain ⟨t, h1, h2⟩ := he
  refine ⟨_, ps_aug (ti := rExt2) C.nd hi hx h1 iop_ext hf, fun F H σ D R q => ?_⟩
  obtain ⟨a, u, e1, e2, e3, e4⟩ := own_at R hd0 rfl
  refine ⟨_, e1, h2 F H σ _ R fun F1 H1 w x1 R1 q1 => ?_⟩
  obtain ⟨a', u', f1, f2, f3, f4⟩ := own_at R1 hd rfl
  rw [e1] at f1
  cases f1
  obtain ⟨vs, rfl, f5⟩ := ctOk_lst f4
  obtain ⟨⟨b, ub, rfl, k1, k2, k3, k4⟩, k5⟩ := q1
  obtain ⟨ws, rfl, k6⟩ := ctOk_lst k3
  obtain ⟨R2, x2⟩ := re_upd R1 hd rfl e1 (u := .lst (vs ++ ws)) (c' := .lst (ds ++ es)) (show DpAll X.K F1 (vs ++ ws) (ds ++ es) from DpAll.append f5 k6)
  refine ⟨a, b, vs, ws, rfl, rfl, f3, k2, by rw [DpAll.len f5, DpAll.len k6]; exact hz, ?_⟩
  have es : σ.set m (some (V.ref a)) = σ := by
    apply List.ext_getElem?
    intro j
    rw [List.getElem?_set]
    by_cases ej : m = j
    · subst ej
      rw [if_pos rfl, if_pos (List.getElem?_eq_some_iff.mp e1).1, e1]
    · rw [if_neg ej]
  show D.nx (σ.set m (some (V.ref a))) _
  rw [es]
  exact q F1 _ σ (x1.trans x2) R2
end
end Pj

set_option Elab.async false
set_option linter.all false
set_option maxRecDepth 100000
/-! Qx: an own list read in an expression that makes a new list. -/
namespace Pj
open PySem PySem.Spec PyProof.Rows L2
mutual
/-- no list and no dict within -/
def noL : PD → Bool
  | .list _ => false
  | .dict _ => false
  | .tuple xs => noLs xs
  | _ => true
def noLs : List PD → Bool
  | [] => true
  | x :: xs => noL x && noLs xs
end
def without1 (F : Hp) (a : Addr) : Hp := fun b => if b = a then none else F b
mutual
theorem dp_noL {K : PySem.W.Frag} {F : Hp} {a : Addr} {ws : List V} (ha : F a = some (.lst ws)) : ∀ (d : PD) (v : V), noL d = true → Dp K F v d → Dp K (without1 F a) v d
  | .none, _, _, h => by cases h; exact .non
  | .bool _, _, _, h => by cases h; exact .bl _
  | .int _, _, _, h => by cases h; exact .int _
  | .str _, _, _, h => by cases h; exact .str _
  | .list _, _, n, _ => by cases n
  | .dict _, _, n, _ => by cases n
  | .tuple ds, _, n, h => by
    cases h with
    | @tup p xs _ h1 h2 =>
      refine .tup ?_ (dpAll_noL ha ds xs n h2)
      rcases h1 with h1 | h1
      · left
        have ne : p ≠ a := fun e => by
          subst e
          rcases h1 with h1 | ⟨o, h1⟩ <;> (rw [ha] at h1; cases h1)
        rcases h1 with h1 | ⟨o, h1⟩
        · exact .inl (by show (if p = a then none else F p) = _; rw [if_neg ne]; exact h1)
        · exact .inr ⟨o, by show (if p = a then none else F p) = _; rw [if_neg ne]; exact h1⟩
      · exact .inr h1
theorem dpAll_noL {K : PySem.W.Frag} {F : Hp} {a : Addr} {ws : List V} (ha : F a = some (.lst ws)) : ∀ (ds : List PD) (vs : List V), noLs ds = true → DpAll K F vs ds → DpAll K (without1 F a) vs ds
  | [], _, _, h => by cases h; exact .nil
  | d :: ds, _, n, h => by
    cases h with
    | cons h1 h2 =>
      have n : (noL d && noLs ds) = true := n
      rw [Bool.and_eq_true] at n
      exact .cons (dp_noL ha d _ n.1 h1) (dpAll_noL ha ds _ n.2 h2)
end
theorem noLs_map {α : Type} {f : α → PD} (h : ∀ a, noL (f a) = true) : ∀ l : List α, noLs (l.map f) = true
  | [] => rfl
  | a :: l => by
    show (noL (f a) && noLs (l.map f)) = true
    rw [h a, noLs_map h l]; rfl
section
variable {X : Cx} {W : WX} {e : Expr} {ρ : En} {ds es : List PD}
/-- own again, what was lent -/
theorem borrow_back {K : PySem.W.Frag} {F H F' H' : Hp} {σ : L2.St} {i : Nat} {a : Addr} {vs : List V} (R : RE K F H σ ρ) (hd : ρ[i]? = some (.ow (.lst ds))) (hf : (ρ.set i .un).all flatS = true) (e1 : σ[i]? = some (some (.ref a))) (e2 : H a = some (.lst vs)) (e3 : F a = none)
    (x : Ext σ (ρ.set i (.va (.list ds))) (upd F a (.lst vs)) H σ (ρ.set i (.va (.list ds))) F' H') (R' : RE K F' H' σ (ρ.set i (.va (.list ds)))) :
    F' a = some (.lst vs) ∧ Ext σ ρ F H σ ρ (without1 F' a) H' ∧ RE K (without1 F' a) H' σ ρ := by
  have oi : OwAt σ ρ i a := ⟨⟨_, _, hd, rfl⟩, e1⟩
  have fa : (upd F a (.lst vs)) a = some (.lst vs) := upd_same
  have ne : ∀ b o, F b = some o → b ≠ a := fun b o z e => by rw [e, e3] at z; cases z
  have sFG : Same F (without1 F' a) := fun b o z => by
    have n := ne b o z
    show (if b = a then none else F' b) = some o
    rw [if_neg n]
    exact x.ff b o (by rw [upd_ne n]; exact z)
  have low : ∀ j b, OwAt σ (ρ.set i (.va (.list ds))) j b → OwAt σ ρ j b := fun j b ⟨⟨s, c, z1, z2⟩, z3⟩ => by
    rw [List.getElem?_set] at z1
    split at z1
    · first
        | (cases z1; cases z2; done)
        | (split at z1
           · cases z1; cases z2
           · cases z1)
    · exact ⟨⟨s, c, z1, z2⟩, z3⟩
  have fa' : F' a = some (.lst vs) := x.ff a _ fa
  have H'a : H' a = some (.lst vs) := R'.fh a _ fa'
  refine ⟨fa', ⟨sFG, fun b o z n => x.hh b o z fun j w => n j (low j b w), fun b o z1 z2 n => ?_, fun j b z => .inl ⟨j, z⟩, fun b z => x.tr b z⟩, ⟨R.len, fun b o z => ?_, fun j d z => ?_, fun j s c z1 z2 => ?_, R.inj⟩⟩
  · have nb : b ≠ a := fun e => n i (by rw [e]; exact oi)
    show (if b = a then none else F' b) = none
    rw [if_neg nb]
    exact x.nf b o (by rw [upd_ne nb]; exact z1) z2 fun j w => n j (low j b w)
  · have z : (if b = a then none else F' b) = some o := z
    split at z
    · cases z
    · exact R'.fh b o z
  · obtain ⟨v, w1, w2⟩ := R.va j d z
    exact ⟨v, w1, Dp.mono w2 sFG⟩
  · by_cases ej : j = i
    · subst ej
      rw [hd] at z1
      cases z1
      cases z2
      obtain ⟨a', u, w1, w2, w3, w4, w5⟩ := R.ob j _ _ hd rfl
      rw [e1] at w1
      cases w1
      rw [e2] at w4
      cases w4
      exact ⟨a, _, e1, trivial, if_pos rfl, H'a, CtOk.mono w5 sFG⟩
    · have z1' : (ρ.set i (.va (.list ds)))[j]? = some s := by rw [List.getElem?_set_ne (fun e => ej e.symm)]; exact z1
      obtain ⟨a', u, w1, w2, w3, w4, w5⟩ := R'.ob j s c z1' z2
      have fl : flatS s = true := List.all_eq_true.mp hf s (List.mem_of_getElem? (i := j) (by rw [List.getElem?_set_ne (fun e => ej e.symm)]; exact z1))
      unfold flatS at fl
      rw [z2] at fl
      refine ⟨a', u, w1, w2, ?_, w4, ?_⟩
      · show (if a' = a then none else F' a') = none
        split
        · rfl
        · exact w3
      · cases c with
        | dk _ => cases fl
        | lst es =>
          obtain ⟨ws, rfl, w6⟩ := ctOk_lst w5
          exact dpAll_flat w6 fl
/-- a new list without lists in it, made while an own list is read -/
theorem EJ.borrow (i : Nat) (h : EJ X W e (ρ.set i (.va (.list ds))) (.ok (ρ.set i (.va (.list ds))) (.ow (.lst es)))) (hn : noLs es = true) (hd : ρ[i]? = some (.ow (.lst ds)) := by rfl) (hf : (ρ.set i .un).all flatS = true := by rfl) : EJ X W e ρ (.ok ρ (.ow (.lst es))) := by
  obtain ⟨t, h1, h2⟩ := h
  refine ⟨t, h1, fun F H σ Q R q => ?_⟩
  obtain ⟨a, vs, e1, e2, e3, e4, R0, x0, _⟩ := re_frz R hd
  refine h2 _ H σ Q R0 fun F' H' v x R' q1 => ?_
  obtain ⟨fa, x2, R2⟩ := borrow_back R hd hf e1 e2 e3 x R'
  obtain ⟨⟨b, ub, rfl, k1, k2, k3, k4⟩, k5⟩ := q1
  obtain ⟨ws, rfl, k6⟩ := ctOk_lst k3
  refine q _ H' _ x2 R2 ⟨⟨b, .lst ws, rfl, ?_, k2, dpAll_noL fa es ws hn k6, k4⟩, fun c a' z1 z2 j z3 => ?_⟩
  · show (if b = a then none else F' b) = none
    split
    · rfl
    · exact k1
  · cases z2
    obtain ⟨_, o, z⟩ := R.owAt z3
    rw [k4] at z
    cases z
end
end Pj

set_option Elab.async false
set_option linter.all false
set_option maxRecDepth 100000
/-! Qy: wrong screenshots, plainly (k15). -/
namespace Pj
open PySem PySem.Spec PyProof.Rows L2
/-! ### some items left out -/
def pickW {α : Type} (l : List α) (lot : List Int) : List α := (l.zipIdx.filter fun p => !decide ((p.2 : Int) ∈ lot)).map (·.1)
theorem zip_fst {α : Type} : ∀ (l : List α) (k : Nat), (l.zipIdx k).map (·.1) = l
  | [], _ => rfl
  | a :: l, k => by rw [List.zipIdx_cons, List.map_cons, zip_fst l (k + 1)]
theorem pickW_sub {α : Type} (l : List α) (lot : List Int) : (pickW l lot).Sublist l := by
  have := (List.filter_sublist (l := l.zipIdx) (p := fun p => !decide ((p.2 : Int) ∈ lot))).map (·.1)
  rw [zip_fst] at this
  exact this
theorem pickW_mem {α : Type} {l : List α} {lot : List Int} {a : α} (h : a ∈ pickW l lot) : a ∈ l := (pickW_sub l lot).subset h
theorem pickW_nil {α : Type} (l : List α) : pickW l [] = l := by
  unfold pickW
  rw [List.filter_eq_self.mpr (fun p _ => by simp), zip_fst]
theorem pickW_map {α β : Type} (f : α → β) (l : List α) (lot : List Int) : pickW (l.map f) lot = (pickW l lot).map f := by
  unfold pickW
  have : ∀ (l : List α) (k : Nat), (((l.map f).zipIdx k).filter fun p => !decide ((p.2 : Int) ∈ lot)).map (·.1) = ((((l.zipIdx k).filter fun p => !decide ((p.2 : Int) ∈ lot)).map (·.1)).map f) := fun l => by
    induction l with
    | nil => intro k; rfl
    | cons a l ih =>
      intro k
      rw [List.map_cons, List.zipIdx_cons, List.zipIdx_cons, List.filter_cons, List.filter_cons]
      by_cases c : (k : Int) ∈ lot
      · rw [if_neg (by simpa using c), if_neg (by simpa using c)]
        exact ih (k + 1)
      · rw [if_pos (by simpa using c), if_pos (by simpa using c), List.map_cons, List.map_cons, List.map_cons, ih (k + 1)]
  exact this l 0
theorem pickW_ne {α : Type} {l : List α} {lot : List Int} {k : Nat} (h : k < l.length) (hk : (k : Int) ∉ lot) : 0 < (pickW l lot).length := by
  unfold pickW
  rw [List.length_map, List.length_pos_iff_exists_mem]
  refine ⟨(l[k], k), List.mem_filter.mpr ⟨?_, by simpa using hk⟩⟩
  rw [List.mem_iff_getElem?]
  exact ⟨k, by rw [List.getElem?_zipIdx, List.getElem?_eq_getElem h]; simp⟩
theorem pickW_set {α : Type} (l : List α) (i : Nat) (a : α) : pickW (l.set i a) [(i : Int)] = pickW l [(i : Int)] := by
  unfold pickW
  have : ∀ (l : List α) (k j : Nat), k + j = i → (((l.set j a).zipIdx k).filter fun p => !decide ((p.2 : Int) ∈ [(i : Int)])) = (((l.zipIdx k).filter fun p => !decide ((p.2 : Int) ∈ [(i : Int)]))) := fun l => by
    induction l with
    | nil => intro k j _; rfl
    | cons b l ih =>
      intro k j e
      cases j with
      | zero =>
        have e : k = i := e
        subst e
        rw [List.set_cons_zero, List.zipIdx_cons, List.zipIdx_cons, List.filter_cons, List.filter_cons, if_neg (by simp), if_neg (by simp)]
      | succ j =>
        rw [List.set_cons_succ, List.zipIdx_cons, List.zipIdx_cons, List.filter_cons, List.filter_cons, ih (k + 1) j (by omega)]
  rw [this l 0 i (by omega)]
theorem GoodS.pick {r : Ru} {n : Nat} {ss : List Shot} (G : GoodS r n ss) {lot : List Int} (h : ∃ k, k < ss.length ∧ (k : Int) ∉ lot) : GoodS r n (pickW ss lot) := by
  obtain ⟨k, h1, h2⟩ := h
  have l := (pickW_sub ss lot).length_le
  have c := G.cnt
  exact ⟨G.rule, G.wide, ⟨pickW_ne h1 h2, by omega⟩, fun s hs => G.tot s (pickW_mem hs), fun s hs => G.len s (pickW_mem hs), fun s hs => G.num s (pickW_mem hs)⟩
/-! ### all sets of places -/
def lotsM : Nat → List (List Int)
  | 0 => [[]]
  | m + 1 => lotsM m ++ (lotsM m).map (· ++ [(m : Int)])
theorem lotsM_len : ∀ m, (lotsM m).length = 2 ^ m
  | 0 => rfl
  | m + 1 => by
    show (lotsM m ++ (lotsM m).map _).length = _
    rw [List.length_append, List.length_map, lotsM_len m, Nat.pow_succ]
    omega
theorem lots_nil : ∀ m, [] ∈ lotsM m
  | 0 => List.mem_cons_self
  | m + 1 => List.mem_append_left _ (lots_nil m)
theorem lots_one : ∀ {m k : Nat}, k < m → [(k : Int)] ∈ lotsM m
  | m + 1, k, h => by
    by_cases c : k < m
    · exact List.mem_append_left _ (lots_one c)
    · have : k = m := by omega
      subst this
      exact List.mem_append_right _ (List.mem_map.mpr ⟨[], lots_nil k, rfl⟩)
theorem lots_in : ∀ {m : Nat} {x : List Int}, x ∈ lotsM m → (∀ y ∈ x, 0 ≤ y ∧ y < m) ∧ x.length ≤ m
  | 0, x, h => by
    rcases List.mem_cons.mp h with rfl | h
    · exact ⟨fun y hy => (by cases hy), Nat.le_refl _⟩
    · cases h
  | m + 1, x, h => by
    rcases List.mem_append.mp h with h | h
    · obtain ⟨a, b⟩ := lots_in h
      exact ⟨fun y hy => by have := a y hy; omega, by omega⟩
    · obtain ⟨z, hz, rfl⟩ := List.mem_map.mp h
      obtain ⟨a, b⟩ := lots_in hz
      refine ⟨fun y hy => ?_, by rw [List.length_append]; show z.length + 1 ≤ _; omega⟩
      rcases List.mem_append.mp hy with hy | hy
      · have := a y hy; omega
      · rcases List.mem_cons.mp hy with rfl | hy
        · omega
        · cases hy
theorem lots_nodup : ∀ m, (lotsM m).Nodup
  | 0 => by simp [lotsM]
  | m + 1 => by
    show (lotsM m ++ (lotsM m).map _).Nodup
    rw [List.nodup_append]
    refine ⟨lots_nodup m, nodup_inj (fun a b h => (app1_inj h).1) (lots_nodup m), fun a ha b hb e => ?_⟩
    obtain ⟨z, hz, rfl⟩ := List.mem_map.mp hb
    subst e
    have := (lots_in ha).1 m (List.mem_append_right _ List.mem_cons_self)
    omega
/-- a set that is not all leaves something -/
theorem lots_miss : ∀ {m : Nat} {x : List Int}, x ∈ lotsM m → x.length < m → ∃ k : Nat, k < m ∧ (k : Int) ∉ x
  | 0, x, _, h => by omega
  | m + 1, x, h, hl => by
    rcases List.mem_append.mp h with h | h
    · exact ⟨m, by omega, fun hm => by have := (lots_in h).1 m hm; omega⟩
    · obtain ⟨z, hz, rfl⟩ := List.mem_map.mp h
      rw [List.length_append] at hl
      obtain ⟨k, h1, h2⟩ := lots_miss hz (show z.length < m by have : z.length + 1 < m + 1 := hl; omega)
      refine ⟨k, by omega, fun hk => ?_⟩
      rcases List.mem_append.mp hk with hk | hk
      · exact h2 hk
      · rcases List.mem_cons.mp hk with e | hk
        · omega
        · cases hk
def sortedL (m : Nat) : List (List Int) := (lotsM m).mergeSort leS
theorem sortedL_perm (m : Nat) : (sortedL m).Perm (lotsM m) := List.mergeSort_perm ..
theorem sortedL_mem {m : Nat} {x : List Int} : x ∈ sortedL m ↔ x ∈ lotsM m := (sortedL_perm m).mem_iff
theorem sortedL_len (m : Nat) : (sortedL m).length = 2 ^ m := by rw [(sortedL_perm m).length_eq, lotsM_len]
theorem sortedL_up (m : Nat) : (sortedL m).Pairwise fun a b => leS a b = true := List.pairwise_mergeSort leS_trans leS_total _
theorem sortedL_nodup (m : Nat) : (sortedL m).Nodup := (sortedL_perm m).nodup_iff.mpr (lots_nodup m)
theorem find_least {S : List (List Int)} (h : S.Pairwise fun a b => leS a b = true) {p : List Int → Bool} {z y : List Int} (hz : S.find? p = some z) (hy : y ∈ S) (py : p y = true) : leS z y = true := by
  induction S with
  | nil => cases hy
  | cons a S ih =>
    rw [List.pairwise_cons] at h
    rw [List.find?_cons] at hz
    cases pa : p a with
    | true =>
      rw [pa] at hz
      cases hz
      rcases List.mem_cons.mp hy with rfl | hy
      · have := leS_total y y
        rwa [Bool.or_self] at this
      · exact h.1 y hy
    | false =>
      rw [pa] at hz
      rcases List.mem_cons.mp hy with rfl | hy
      · rw [pa] at py; cases py
      · exact ih h.2 hz hy
/-! ### what is wrong -/
section
variable {r : Ru} {n : Nat} {ss : List Shot}
def okLot (r : Ru) (ss : List Shot) (lot : List Int) : Bool := decide (lot.length < ss.length) && fitS r (pickW ss lot)
def fewW (r : Ru) (ss : List Shot) : Option (List Int) := (sortedL ss.length).find? (okLot r ss)
def wrongM (r : Ru) (ss : List Shot) : List Int := if ss.length = 1 ∨ fitS r ss = true then [] else ((List.range ss.length).filter fun (k : Nat) => fitS r (pickW ss [(k : Int)])).map fun k => ((k : Nat) : Int)
def goodM (r : Ru) (ss : List Shot) : List (List Int) := (sortedL ss.length).filter (okLot r ss)
def dueM (good : List (List Int)) : List Int := if [] ∈ good then [] else (good.filter fun z => decide (z.length = 1)).map fun z => z.headD 0
theorem few_good : (goodM r ss).head? = fewW r ss := List.head?_filter
theorem okLot_nil (h : 1 ≤ ss.length) : okLot r ss [] = fitS r ss := by
  unfold okLot
  rw [pickW_nil, decide_eq_true (show ([] : List Int).length < ss.length from h)]
  rfl
theorem few_whole (h : 1 ≤ ss.length) (hf : fitS r ss = true) : fewW r ss = some [] := by
  have o : okLot r ss [] = true := by rw [okLot_nil h]; exact hf
  have m : [] ∈ sortedL ss.length := sortedL_mem.mpr (lots_nil _)
  cases e : fewW r ss with
  | none =>
    have := List.find?_eq_none.mp e [] m
    exact absurd o (by simpa using this)
  | some z =>
    have := find_least (sortedL_up _) e m o
    unfold leS at this
    rw [decide_eq_true_eq] at this
    have l : z.length ≤ 0 := by
      rcases this with h | h
      · exact Nat.le_of_lt h
      · exact Nat.le_of_eq h.1
    rw [List.length_eq_zero_iff.mp (Nat.le_zero.mp l)]
theorem few_one (h : 1 < ss.length) (hf : fitS r ss = false) {i : Nat} (hi : i < ss.length) (hg : fitS r (pickW ss [(i : Int)]) = true) : ∃ z, fewW r ss = some z ∧ z.length = 1 := by
  have o : okLot r ss [(i : Int)] = true := by
    unfold okLot
    rw [decide_eq_true (show [(i : Int)].length < ss.length from h), hg]; rfl
  have m : [(i : Int)] ∈ sortedL ss.length := sortedL_mem.mpr (lots_one hi)
  cases e : fewW r ss with
  | none =>
    have := List.find?_eq_none.mp e _ m
    exact absurd o (by simpa using this)
  | some z =>
    have a := find_least (sortedL_up _) e m o
    have pz : okLot r ss z = true := List.find?_some e
    unfold leS at a
    rw [decide_eq_true_eq] at a
    have l : z.length ≤ 1 := by
      rcases a with h | h
      · exact Nat.le_of_lt h
      · exact Nat.le_of_eq h.1
    refine ⟨z, rfl, ?_⟩
    cases z with
    | nil =>
      rw [okLot_nil (by omega), hf] at pz
      cases pz
    | cons y z => have : (y :: z).length = z.length + 1 := rfl; omega
theorem one_le {a b : Int} (h : leS [a] [b] = true) : a ≤ b := by
  unfold leS at h
  rw [decide_eq_true_eq] at h
  rcases h with h | ⟨_, h⟩
  · exact absurd h (Nat.lt_irrefl _)
  · apply Int.not_lt.mp
    intro c
    exact List.not_lt.mpr h (List.cons_lt_cons_iff.mpr (.inl c))
theorem due_eq (h : 1 ≤ ss.length) : wrongM r ss = dueM (goodM r ss) := by
  have mg : ∀ {z}, z ∈ goodM r ss ↔ z ∈ lotsM ss.length ∧ okLot r ss z = true := by
    intro z
    unfold goodM
    rw [List.mem_filter, sortedL_mem]
  unfold wrongM dueM
  by_cases hf : fitS r ss = true
  · rw [if_pos (.inr hf), if_pos (mg.mpr ⟨lots_nil _, by rw [okLot_nil h]; exact hf⟩)]
  · rw [if_neg (show ¬ ([] ∈ goodM r ss) from fun z => hf (by rw [← okLot_nil h]; exact (mg.mp z).2))]
    have key : ∀ x : Int, x ∈ ((goodM r ss).filter fun z => decide (z.length = 1)).map (fun z => z.headD 0) ↔ 1 < ss.length ∧ ∃ k : Nat, k < ss.length ∧ x = ((k : Nat) : Int) ∧ fitS r (pickW ss [(k : Int)]) = true := fun x => by
      rw [List.mem_map]
      constructor
      · rintro ⟨z, hz, rfl⟩
        obtain ⟨z1, z2⟩ := List.mem_filter.mp hz
        obtain ⟨z3, z4⟩ := mg.mp z1
        rw [decide_eq_true_eq] at z2
        obtain ⟨y, rfl⟩ := List.length_eq_one_iff.mp z2
        have b := (lots_in z3).1 y List.mem_cons_self
        unfold okLot at z4
        rw [Bool.and_eq_true, decide_eq_true_eq] at z4
        refine ⟨z4.1, y.toNat, by omega, ?_, ?_⟩
        · show y = _; omega
        · rw [show ((y.toNat : Nat) : Int) = y by omega]; exact z4.2
      · rintro ⟨h1, k, h2, rfl, h3⟩
        refine ⟨[(k : Int)], List.mem_filter.mpr ⟨mg.mpr ⟨lots_one h2, ?_⟩, rfl⟩, rfl⟩
        unfold okLot
        rw [decide_eq_true (show [(k : Int)].length < ss.length from h1), h3]; rfl
    have up : (((goodM r ss).filter fun z => decide (z.length = 1)).map (fun z => z.headD 0)).Pairwise (· < ·) := by
      rw [List.pairwise_map, List.pairwise_filter]
      unfold goodM
      refine List.Pairwise.filter _ ?_
      refine ((sortedL_up ss.length).and (sortedL_nodup ss.length)).imp fun ⟨a, b⟩ c d => ?_
      rw [decide_eq_true_eq] at c d
      obtain ⟨x, rfl⟩ := List.length_eq_one_iff.mp c
      obtain ⟨y, rfl⟩ := List.length_eq_one_iff.mp d
      have := one_le a
      have ne : x ≠ y := fun e => b (by rw [e])
      show x < y
      omega
    by_cases c1 : ss.length = 1
    · rw [if_pos (.inl c1)]
      symm
      rw [List.eq_nil_iff_forall_not_mem]
      intro x hx
      have := ((key x).mp hx).1
      omega
    · rw [if_neg (by rintro (a | a); exact c1 a; exact hf a)]
      refine rises_one (ns := ((goodM r ss).filter fun z => decide (z.length = 1)).map (fun z => z.headD 0)) ⟨?_, fun x => ?_⟩ ⟨up, fun x => Iff.rfl⟩
      · rw [List.pairwise_map]
        exact (List.pairwise_lt_range.filter _).imp fun h => by omega
      · rw [key, List.mem_map]
        constructor
        · rintro ⟨k, hk, rfl⟩
          obtain ⟨k1, k2⟩ := List.mem_filter.mp hk
          exact ⟨by omega, k, List.mem_range.mp k1, rfl, k2⟩
        · rintro ⟨_, k, k1, rfl, k2⟩
          exact ⟨k, List.mem_filter.mpr ⟨List.mem_range.mpr k1, k2⟩, rfl⟩
/-! ### votes that grow -/
theorem hsl_rows {rows : List (List Int)} (hv : ∀ v ∈ rows, isVotesI v) (up : rows.Pairwise leAll) : HsL r (rows.map fun v => shotOf (v.sum, numsM r v)) rows := by
  refine ⟨by rw [List.length_map], fun t s v e1 e2 => ?_, fun t v v' e1 e2 => ?_⟩
  · rw [List.getElem?_map, e2] at e1
    cases e1
    have iv := hv v (List.mem_of_getElem? e2)
    refine ⟨?_, rfl, fun y hy => (iv.2.2.1 y hy).1, fun k i y h1 h2 => ?_⟩
    · show v.length = ((numsM r v).map some).length
      unfold numsM
      rw [List.length_map, List.length_map]
    · have h1 : ((numsM r v).map some)[k]? = some (some i) := h1
      unfold numsM at h1
      rw [List.getElem?_map, List.getElem?_map, h2] at h1
      cases h1
      rfl
  · have hl := (List.getElem?_eq_some_iff.mp e2).1
    have q := List.pairwise_iff_getElem.mp up t (t + 1) (by omega) hl (by omega)
    rw [List.getElem?_eq_getElem (by omega)] at e1 e2
    cases e1
    cases e2
    exact q
/-- a poll, one screenshot left out -/
theorem pick_fits {rows : List (List Int)} (hv : ∀ v ∈ rows, isVotesI v) (up : rows.Pairwise leAll) (lot : List Int) (G : GoodS r n (pickW (rows.map fun v => shotOf (v.sum, numsM r v)) lot)) : fitS r (pickW (rows.map fun v => shotOf (v.sum, numsM r v)) lot) = true := by
  refine (fitS_hsl G).mpr ⟨pickW rows lot, ?_⟩
  rw [pickW_map]
  exact hsl_rows (fun v hv' => hv v (pickW_mem hv')) (up.sublist (pickW_sub rows lot))
end
/-! ### promises -/
def M_are_consistent (ds : List PD) (o : PO) : Prop := ∃ (r : Ru) (n : Nat) (ss : List Shot), GoodS r n ss ∧ ds = [eRu r, eShots ss] ∧ o = .ok (.va (.bool (fitS r ss)))
def M_without (ds : List PD) (o : PO) : Prop := ∃ (ss : List Shot) (lot : List Int), ss.length ≤ 100 ∧ ds = [eShots ss, eInts lot] ∧ o = .ok (.va (eShots (pickW ss lot)))
def eLot : Option (List Int) → PD
  | none => .none
  | some l => eInts l
def M_wrong_shots (ds : List PD) (o : PO) : Prop := ∃ d v, ds = [d, v] ∧ Args2 d v o fun r n ss _ => o = .ok (.ow (.lst ((wrongM r ss).map .int)))
def M_fewest_wrong (ds : List PD) (o : PO) : Prop := ∃ d v, ds = [d, v] ∧ Args2 d v o fun r n ss _ => o = .ok (.va (eLot (fewW r ss)))
theorem m_wrong_shots {r : Ru} {n : Nat} {ss : List Shot} (G : GoodS r n ss) : M_wrong_shots [eRu r, eShots ss] (.ok (.ow (.lst ((wrongM r ss).map .int)))) := ⟨_, _, rfl, .inr (.inr ⟨r, n, ss, G, rfl, rfl, rfl⟩)⟩
theorem m_fewest_wrong {r : Ru} {n : Nat} {ss : List Shot} (G : GoodS r n ss) : M_fewest_wrong [eRu r, eShots ss] (.ok (.va (eLot (fewW r ss)))) := ⟨_, _, rfl, .inr (.inr ⟨r, n, ss, G, rfl, rfl, rfl⟩)⟩
theorem m_are_consistent {r : Ru} {n : Nat} {ss : List Shot} (G : GoodS r n ss) : M_are_consistent [eRu r, eShots ss] (.ok (.va (.bool (fitS r ss)))) := ⟨r, n, ss, G, rfl, rfl⟩
theorem m_without {ss : List Shot} {lot : List Int} (h : ss.length ≤ 100) : M_without [eShots ss, eInts lot] (.ok (.va (eShots (pickW ss lot)))) := ⟨ss, lot, h, rfl, rfl⟩
def M_law_index_sets (ds : List PD) (o : PO) : Prop := ∃ (m : Nat), m ≤ 8 ∧ ds = [.int m] ∧ o = .ok (.va (.list ((sortedL m).map eInts)))
def M_law_right (ds : List PD) (o : PO) : Prop := ∃ (r : Ru) (n : Nat) (ss : List Shot), GoodS r n ss ∧ n ≤ 4 ∧ (∀ s ∈ ss, s.1 ≤ 66) ∧ ds = [eRu r, eShots ss] ∧ o = .ok (.va (.bool true))
theorem lots_fold : ∀ m, (List.range m).foldl (fun (L : List (List Int)) (i : Nat) => L ++ L.map (· ++ [(i : Int)])) [[]] = lotsM m
  | 0 => rfl
  | m + 1 => by rw [List.range_succ, List.foldl_append, lots_fold m]; rfl
end Pj

set_option Elab.async false
set_option linter.all false
set_option maxRecDepth 100000
/-! Ra: try: body, except C as e: suite. -/
namespace Pj
open PySem PySem.Spec PyProof.Rows L2
/-- an own exception class that is caught, and asked for by isinstance -/
structure ExcX (K : PySem.W.Frag) (mg : Str → Option Value) (n : Str) : Prop where
  ex : ∃ D, mg n = some (.ref D) ∧ L2.ExcC K D ∧ PySem.W.typeIn K (.ref D) = some (.type "type")
/-- n is (b) a subclass of m -/
structure SubX (K : PySem.W.Frag) (mg : Str → Option Value) (n m : Str) (b : Bool) : Prop where
  ex : ∃ D C, mg n = some (.ref D) ∧ mg m = some (.ref C) ∧ PySem.W.subIn K (.ref D) (.ref C) = some b
theorem kit_ref {K : PySem.W.Frag} {D C : Addr} {b : Bool} (hd : PySem.W.hasDictIn K C = true) (ht : PySem.W.typeIn K (.ref C) = some (.type "type")) (hs : PySem.W.subIn K (.ref D) (.ref C) = some b) (hb : D = C → b = true) : PySem.W.kitOne K (.ref D) (.ref C) = some b := by
  obtain ⟨cd, hc, _⟩ := PySem.W.any_some hd
  unfold PySem.W.kitOne
  by_cases e : D = C
  · subst e
    rw [if_pos (by simp), hb rfl]
  · rw [if_neg (by simpa using e)]
    have e2 : ((PySem.W.clsIn K C).isSome && PySem.W.typeIn K (.ref C) == some (.type "type")) = true := by rw [hc, ht] <;> rfl
    show (if ((PySem.W.clsIn K C).isSome && PySem.W.typeIn K (.ref C) == some (.type "type")) = true then PySem.W.subIn K (.ref D) (.ref C) else none) = some b
    rw [if_pos e2]
    exact hs
section
variable {X : Cx} {W : WX} {lv i : Nat} {ρ ρ1 ρ2 : En} {o ob : SO} {body suite : List Stmt} {b0 : Stmt} {np pos pos' : Pos} {x n n0 m : Str}
theorem Ok.tr (C : Ok X W lv) {W' : WX} {pn : List (Addr × Obj)} {xe : Value → Shared → Prop} (tk : Takes (X.tr pn xe) W') (po : PassesOwn (model X.prog X.w) X.A X.env xe) : Ok (X.tr pn xe) W' lv := ⟨C.calm, po, tk, C.nd, C.room⟩
/-- how a suite goes that holds an error of class n0 in slot i -/
def SuJ (X : Cx) (W : WX) (i : Nat) (n0 : Str) (suite : List Stmt) (ρ : En) (o : SO) : Prop :=
  ∀ (D0 a : Addr) (oe : Obj) (pn : List (Addr × Obj)), X.mg n0 = some (.ref D0) → Zc (.ref D0) none oe → (∃ vs, oe.data = .fields vs) → ∃ t, PSs (X.suite a ((a, oe) :: pn)) suite t ∧
    ∀ F H σ Dn, RE X.K F H σ ρ → H a = none → σ[i]? = some (some (.ref a)) → SPost X W F H σ ρ Dn o → t Dn σ H
def tSu (X : Cx) (W : WX) (i : Nat) (n0 : Str) (suite : List Stmt) : Addr → Value → Option Addr → TS := fun a cls d Dn σ H =>
  ∃ F ρ o D0, X.mg n0 = some (.ref D0) ∧ cls = .ref D0 ∧ d = none ∧ SuJ X W i n0 suite ρ o ∧ RE X.K F H σ ρ ∧ H a = none ∧ σ[i]? = some (some (.ref a)) ∧ SPost X W F H σ ρ Dn o
def tTr (X : Cx) (body : List Stmt) (W' : WX) : TS := fun D σ H => ∃ F ρ o, (∀ pn xe, Takes (X.tr pn xe) W' → PassesOwn (model X.prog X.w) X.A X.env xe → BJ (X.tr pn xe) W' body ρ o) ∧ RE X.K F H σ ρ ∧ SPost X W' F H σ ρ D o
theorem pss_tr {W' : WX} {pn : List (Addr × Obj)} {xe : Value → Shared → Prop} (tk : Takes (X.tr pn xe) W') (po : PassesOwn (model X.prog X.w) X.A X.env xe) : PSs (X.tr pn xe) body (tTr X body W') := ⟨fun pins s σ H D I h => by
  obtain ⟨F, ρ, o, hb, R, q⟩ := h
  obtain ⟨t, h1, h2⟩ := hb pn xe tk po
  exact h1.run pins s σ H D I (h2 F H σ D R q)⟩
theorem pss_su {a : Addr} {oe : Obj} {cls : Value} {d : Option Addr} {pn : List (Addr × Obj)} (hz : Zc cls d oe) (hf : ∃ vs, oe.data = .fields vs) : PSs (X.suite a ((a, oe) :: pn)) suite (tSu X W i n0 suite a cls d) := ⟨fun pins s σ H D I h => by
  obtain ⟨F, ρ, o, D0, hm, rfl, rfl, hs, R, ha, hi, q⟩ := h
  obtain ⟨t, h1, h2⟩ := hs D0 a oe pn hm hz hf
  exact h1.run pins s σ H D I (h2 F H σ D R ha hi q)⟩
/-- a slot that holds nothing known takes anything -/
theorem re_put {F H : Hp} {σ : L2.St} {K : PySem.W.Frag} {v : Option V} (R : RE K F H σ ρ) (hu : ρ[i]? = some .un) : RE K F H (σ.set i v) ρ ∧ Ext σ ρ F H (σ.set i v) ρ F H := by
  have ow : ∀ j b, OwAt (σ.set i v) ρ j b → OwAt σ ρ j b := fun j b ⟨⟨s, c, z1, z2⟩, z3⟩ => by
    by_cases e : j = i
    · subst e
      rw [hu] at z1
      cases z1
      cases z2
    · rw [List.getElem?_set_ne (fun z => e z.symm)] at z3
      exact ⟨⟨s, c, z1, z2⟩, z3⟩
  refine ⟨re_wipe R (by rw [List.length_set]) rfl fun j => ?_, Same.refl _, fun b o h _ => h, fun b o h _ _ => h, fun j b h => .inl ⟨j, ow j b h⟩, fun b h => h⟩
  by_cases e : j = i
  · subst e
    exact .inr fun s h => by rw [hu] at h; cases h; rfl
  · exact .inl ⟨by rw [List.getElem?_set_ne (fun z => e z.symm)], rfl⟩
/-- the body ends well -/
theorem sj_tryN (C : Ok X W lv) (hx : ExcX X.K X.mg x) (hN : X.N[i]? = some n) (hb : ∀ W' pn xe, Takes (X.tr pn xe) W' → PassesOwn (model X.prog X.w) X.A X.env xe → BJ (X.tr pn xe) W' body ρ o) (ho : (∃ ρ1, o = .nx ρ1) ∨ ∃ ρ1 r, o = .rt ρ1 r)
    (hs : X.stack = X.env :: X.outer := by rfl) (hf : X.env.frame = some X.env.locals := by rfl) (hln : X.env.kindOf n = some .local := by rfl) (hg : Gl X x := by rfl) (hdb : (x == ("__debug__" : Str)) = false := by decide) :
    SJ X W (.Try body [.ExceptHandler (some (.Name x np)) (some n) (b0 :: suite) pos'] [] [] pos) ρ o := by
  obtain ⟨c, h1, h2, h3⟩ := hx.ex
  refine ⟨_, ps_try_as (tb := tTr X body) (ts := tSu X W i x (b0 :: suite)) hs hf C.nd hN hln ⟨hg, hdb, .inl h1⟩ C.takes (fun W' pn xe tk po => pss_tr tk po) (fun a oe cls d pn hz hf => pss_su hz hf), fun F H σ D R q => ⟨F, ρ, o, hb _, R, ?_⟩⟩
  rcases ho with ⟨ρ1, rfl⟩ | ⟨ρ1, r, rfl⟩
  · exact q
  · exact q
/-- the body raises, the suite returns -/
theorem sj_tryX (i : Nat) (C : Ok X W lv) (hx : ExcX X.K X.mg x) (h0 : ExcX X.K X.mg n0) (hsub : SubX X.K X.mg n0 x true) (hb : ∀ W' pn xe, Takes (X.tr pn xe) W' → PassesOwn (model X.prog X.w) X.A X.env xe → BJ (X.tr pn xe) W' body ρ (.ex ρ1 n0 none))
    (hsu : SuJ X W i n0 (b0 :: suite) ρ1 o) {ρ2 : En} {r : Rs} (ho : o = .rt ρ2 r) (hu : ρ1[i]? = some .un := by rfl) (hN : X.N[i]? = some n := by rfl)
    (hs : X.stack = X.env :: X.outer := by rfl) (hf : X.env.frame = some X.env.locals := by rfl) (hln : X.env.kindOf n = some .local := by rfl) (hg : Gl X x := by rfl) (hdb : (x == ("__debug__" : Str)) = false := by decide) :
    SJ X W (.Try body [.ExceptHandler (some (.Name x np)) (some n) (b0 :: suite) pos'] [] [] pos) ρ o := by
  obtain ⟨c, h1, h2, h3⟩ := hx.ex
  obtain ⟨D, C', s1, s2, s3⟩ := hsub.ex
  rw [h1] at s2
  cases s2
  refine ⟨_, ps_try_as (tb := tTr X body) (ts := tSu X W i n0 (b0 :: suite)) hs hf C.nd hN hln ⟨hg, hdb, .inl h1⟩ C.takes (fun W' pn xe tk po => pss_tr tk po) (fun a oe cls d pn hz hf => pss_su hz hf), fun F H σ Dn R q => ⟨F, ρ, .ex ρ1 n0 none, hb _, R, ?_⟩⟩
  intro F' H' σ' x1 R1 C1 e1
  rw [s1] at e1
  cases e1
  refine ⟨true, PySem.W.exm_ref h2.hs h2.hd h3 s3, fun _ a ha => ?_, fun z => by cases z⟩
  obtain ⟨R2, x2⟩ := re_put (v := some (.ref a)) R1 hu
  have il : i < σ'.length := by
    have := (List.getElem?_eq_some_iff.mp hu).1
    rw [R1.len]; exact this
  refine ⟨F', ρ1, o, D, s1, rfl, rfl, hsu, R2, ha, by rw [List.getElem?_set_self il], ?_⟩
  subst ho
  exact q.pull (x1.trans x2)
/-- return s1 if isinstance(e, m) else s2 -/
theorem su_is {s1 s2 : Str} {j1 j2 : Nat} {p p1 p2 p3 q1 q2 q3 q4 : Pos} {b : Bool} (h0 : ExcX X.K X.mg n0) (hm : ExcX X.K X.mg m) (hk : SubX X.K X.mg n0 m b) (hz0 : X.mg "isinstance" = none) (hN : X.N[i]? = some n := by rfl)
    (hinj : ∀ D, X.mg n0 = some (.ref D) → X.mg m = some (.ref D) → b = true)
    (hv : Vis X.env.scope n := by first | exact Or.inl rfl | exact Or.inr (Or.inl rfl) | exact Or.inr (Or.inr rfl)) (hg : Gl X "isinstance" := by rfl) (hg2 : Gl X m := by rfl) (hdn : (n == ("__debug__" : Str)) = false := by decide) (hcn : (n == ("__classdict__" : Str)) = false := by decide) (hdm : (m == ("__debug__" : Str)) = false := by decide)
    (he : starEach [.Name n p1, .Name m p2] X.env = (false, eval (.Name n p1) X.env) :: starEach [.Name m p2] X.env := by rfl) (he2 : starEach [.Name m p2] X.env = (false, eval (.Name m p2) X.env) :: starEach [] X.env := by rfl) (hpl : (backTo p3 (starEach [.Name m p2] X.env)).any (·.1) = false := by rfl)
    (ht : ∀ whole, isTrue (.Call (.Name "isinstance" p) [.Name n p1, .Name m p2] [] p3) X.env whole = (do let v ← whole; standAt p3; holding [v] (truthy v)) := by intro _; rfl) :
    SuJ X W i n0 [.Return (some (.IfExp (.Call (.Name "isinstance" p) [.Name n p1, .Name m p2] [] p3) (.Constant (.str s1) j1 q1) (.Constant (.str s2) j2 q2) q3)) q4] ρ (.rt ρ (.va (.str (if b then s1 else s2)))) := by
  intro D0 a oe pn hD hz hf
  obtain ⟨D, a1, a2, a3⟩ := h0.ex
  rw [hD] at a1
  cases a1
  obtain ⟨Cm, b1, b2, b3⟩ := hm.ex
  obtain ⟨D', C', c1, c2, c3⟩ := hk.ex
  rw [hD] at c1
  cases c1
  rw [b1] at c2
  cases c2
  refine ⟨_, pss_one (ps_ret (pe_ifExp (pt_val (pe_callB (X := X.suite a ((a, oe) :: pn)) (call_isE a2 hz hf) hg hz0 (by decide +kernel) (pa_cons (pe_var (i := i) hN hv hdn hcn) (pa_cons (pe_glob hg2 b1 (v := .ref Cm) rfl hdm) pa_nil he2) he) (by decide) (by decide) he hpl) ht) pe_str pe_str)), fun F H σ Dn R ha hi q => ?_⟩
  have kit := kit_ref (D := D0) (C := Cm) b2.hd b3 c3 fun e => by subst e; exact hinj _ hD b1
  refine ⟨_, hi, .ref Cm, .ref Cm, b, rfl, fun u r => by cases r; rfl, kit, b, rfl, ?_⟩
  have fin : ∀ s : Str, s = (if b then s1 else s2) → Dn.rt (.str s) H := fun s e => by
    subst e
    exact q F H σ _ Ext.refl R ⟨.str _, fun _ _ z => nomatch z⟩
  cases b with
  | true => exact fin s1 rfl
  | false => exact fin s2 rfl
end
end Pj

set_option Elab.async false
set_option linter.all false
set_option maxRecDepth 100000
/-! Rb: own list * int; what more decimals show (k18). -/
namespace Pj
open PySem PySem.Spec PyProof.Rows L2
section
variable {X : Cx} {W : WX} {lv : Nat} {a b e c : Expr} {ρ ρ1 ρ2 : En} {ds es : List PD} {pos p pos' : Pos} {j : Int}
theorem DpAll.rep {K : PySem.W.Frag} {F : Hp} {vs : List V} (h : DpAll K F vs ds) : ∀ m : Nat, DpAll K F (List.replicate m vs).flatten (List.replicate m ds).flatten
  | 0 => .nil
  | m + 1 => by
    rw [List.replicate_succ, List.replicate_succ, List.flatten_cons, List.flatten_cons]
    exact DpAll.append h (DpAll.rep h m)
theorem ej_repL (ha : EJ X W a ρ (.ok ρ1 (.ow (.lst ds)))) (hb : EJ X W b ρ1 (.ok ρ1 (.va (.int j)))) (hj : 0 ≤ j ∧ j ≤ 1000) (hl : ds.length ≤ 1000) (hq : ρ1 = ρ) : EJ X W (.BinOp a .Mult b pos) ρ (.ok ρ1 (.ow (.lst (List.replicate j.toNat ds).flatten))) := by
  subst hq
  obtain ⟨ta, a1, a2⟩ := ha
  obtain ⟨tb, b1, b2⟩ := hb
  refine ⟨_, pe_op op_rep a1 b1, fun F H σ Q R h => a2 F H σ _ R fun F1 H1 v1 x1 R1 q1 => b2 F1 H1 σ _ R1 fun F2 H2 v2 x2 R2 q2 => ?_⟩
  obtain ⟨⟨p, u, rfl, k1, k2, k3, k4⟩, k5⟩ := q1
  obtain ⟨vs, rfl, k6⟩ := ctOk_lst k3
  cases (show Dp X.K F2 v2 (.int j) from q2.1)
  have no : ∀ i, ¬ OwAt σ ρ1 i p := fun i z => k5 _ _ rfl rfl i z
  have k2' : H2 p = some (.lst vs) := x2.hh p _ k2 no
  have ln := DpAll.len k6
  refine ⟨p, j, vs, rfl, rfl, k2', by omega, by omega, ?_, fun q np => ?_⟩
  · have : vs.length * j.toNat ≤ 1000 * 1000 := Nat.mul_le_mul (by omega) (by omega)
    rw [sizeLine_eq]
    omega
  · have nf : F2 q = none := by
      cases hh : F2 q with
      | none => rfl
      | some o => have := R2.fh q o hh; rw [np] at this; cases this
    exact (h.pull (x1.trans x2)).fin R2 (Xt.own R2.fh np) ⟨q, _, rfl, nf, upd_same, DpAll.mono (DpAll.rep k6 _) x2.ff, np⟩
end
/-! ### the numbers of more decimals -/
def fineR (r : Ru) (d : Nat) : Ru := ⟨d, r.up⟩
def sharpM (r : Ru) (n : Nat) (ss : List Shot) (d : Nat) : List (List Int) := (List.range ss.length).map fun t => (List.range n).map fun k => (((numsIn (fineR r d) (sAt ss t).1 (smallM (tots ss) (rngs r ss) t k, largeM (tots ss) (rngs r ss) t k)).length : Nat) : Int)
def eRows (rows : List (List Int)) : PD := .list (rows.map fun row => .list (row.map .int))
def sharpOf (r : Ru) (n : Nat) (ss : List Shot) (d : Nat) : PD := if fitS r ss then eRows (sharpM r n ss d) else .none
def M_sharper (ds : List PD) (o : PO) : Prop := ∃ d v k, ds = [d, v, k] ∧ Args2 d v o fun r n ss _ => (isI k 0 2 = false ∧ o = .ex "InvalidCount" none) ∨ ∃ j : Nat, j ≤ 2 ∧ k = .int j ∧ o = .ok (.va (sharpOf r n ss j))
section
variable {r : Ru} {n : Nat} {ss : List Shot}
theorem m_sharper (G : GoodS r n ss) {j : Nat} (hj : j ≤ 2) : M_sharper [eRu r, eShots ss, .int j] (.ok (.va (sharpOf r n ss j))) := ⟨_, _, _, rfl, .inr (.inr ⟨r, n, ss, G, rfl, rfl, .inr ⟨j, hj, rfl, rfl⟩⟩)⟩
theorem m_sharperX (G : GoodS r n ss) {k : PD} (h : isI k 0 2 = false) : M_sharper [eRu r, eShots ss, k] (.ex "InvalidCount" none) := ⟨_, _, _, rfl, .inr (.inr ⟨r, n, ss, G, rfl, rfl, .inl ⟨h, rfl⟩⟩)⟩
theorem rows_sh (rows : List (List Int)) : ShD 3 (eRows rows) := shLm fun _ _ => shLm fun _ _ => shI
theorem rows_noB (rows : List (List Int)) : noB (eRows rows) = true := show noBs _ = true from noBs_map fun _ _ => show noBs _ = true from noBs_map fun _ _ => rfl
theorem sharp_sh (d : Nat) : noB (sharpOf r n ss d) = true ∧ SeqAt.shaped (sharpOf r n ss d) = true := by
  unfold sharpOf
  split
  · exact ⟨rows_noB _, (rows_sh _).shaped⟩
  · exact ⟨rfl, rfl⟩
theorem firstMet_nodup (f : Nat → Int) : ∀ m : Nat, (firstMet f m).Nodup
  | 0 => by rw [firstMet_zero]; exact List.nodup_nil
  | m + 1 => by
    rw [firstMet_succ]
    unfold step_dedup
    split
    · exact firstMet_nodup f m
    · rename_i hb
      rw [List.nodup_append]
      refine ⟨firstMet_nodup f m, by simp, fun a ha b hb' e => ?_⟩
      rcases List.mem_cons.mp hb' with rfl | hb'
      · subst e
        exact hb (List.any_eq_true.mpr ⟨_, ha, by simp⟩)
      · cases hb'
/-- the different numbers, counted -/
theorem dist_rise (ns : List Int) : distN ns = (riseI ns).length := by
  have h1 : (firstMet (fun i => ns.getD i 0) ns.length).Nodup := firstMet_nodup _ _
  have R := riseI_ok ns
  have h2 : (riseI ns).Nodup := R.up.imp fun h => by omega
  unfold distN
  refine ((List.perm_ext_iff_of_nodup h1 h2).mpr fun x => ?_).length_eq
  rw [R.mem]
  constructor
  · intro h
    obtain ⟨i, il, e⟩ := dist_first (fun i => ns.getD i 0) ns.length x h
    rw [← e]
    exact (getD_mem (l := ns) (i := i) (d := 0) il).1
  · intro h
    obtain ⟨i, hi⟩ := List.mem_iff_getElem?.mp h
    have il := (List.getElem?_eq_some_iff.mp hi).1
    have := first_mem (fun i => ns.getD i 0) ns.length i il
    simp only [List.getD_eq_getElem?_getD, hi] at this
    exact this
/-- .. as the laws gather them -/
theorem fine_dist (G : GoodS r n ss) (ft : fitS r ss = true) {d : Nat} (hd : d ≤ 2) {i k : Nat} (hi : i < ss.length) (hk : k < n) :
    ((distN (((histsM r ss).getD i []).map fun v => numberM (fineR r d) (v.getD k 0) (sAt ss i).1) : Nat) : Int) = ((numsIn (fineR r d) (sAt ss i).1 (smallM (tots ss) (rngs r ss) i k, largeM (tots ss) (rngs r ss) i k)).length : Nat) := by
  have ft : fitsM (tots ss) (rngs r ss) = true := ft
  obtain ⟨hs, ht, hl, _⟩ := G.at hi
  obtain ⟨b0, sl, b1⟩ := G.bnd ft hi hk
  rw [dist_rise]
  refine congrArg (fun l : List Int => ((l.length : Nat) : Int)) (rises_one (riseI_ok _) ⟨?_, fun x => ?_⟩)
  · unfold numsIn
    exact (rngI_up _ _).filter _
  · rw [numsIn_mem (p := (smallM (tots ss) (rngs r ss) i k, largeM (tots ss) (rngs r ss) i k)) (show 0 < (sAt ss i).1 by omega) b0 sl b1, List.mem_map]
    constructor
    · rintro ⟨v, h1, h2, h3⟩
      obtain ⟨vs, u, H, e1, e2⟩ := (hsl_vals G ft hi hk).mpr ⟨h1, h2⟩
      refine ⟨u, (G.hists.2 i hi u).mpr ⟨vs, H, e1⟩, ?_⟩
      rw [List.getD_eq_getElem?_getD, e2]
      exact h3
    · rintro ⟨u, hu, h3⟩
      have hc : u.getD k 0 ∈ colOf ((histsM r ss).getD i []) k := List.mem_map_of_mem hu
      have := (hsl_vals G ft hi hk).mp ((G.col_mem hi hk).mp hc)
      exact ⟨_, this.1, this.2, h3⟩
/-- there is a number of more decimals -/
theorem fine_pos (G : GoodS r n ss) (ft : fitS r ss = true) {d : Nat} {i k : Nat} (hi : i < ss.length) (hk : k < n) : 1 ≤ (numsIn (fineR r d) (sAt ss i).1 (smallM (tots ss) (rngs r ss) i k, largeM (tots ss) (rngs r ss) i k)).length := by
  obtain ⟨hs, ht, hl, _⟩ := G.at hi
  obtain ⟨b0, sl, b1⟩ := G.bnd ft hi hk
  have m := (numsIn_mem (r := fineR r d) (p := (smallM (tots ss) (rngs r ss) i k, largeM (tots ss) (rngs r ss) i k)) (show 0 < (sAt ss i).1 by omega) b0 sl b1).mpr ⟨_, Int.le_refl _, sl, rfl⟩
  exact List.length_pos_iff_exists_mem.mpr ⟨_, m⟩
/-- with the same decimals it is the number that is shown -/
theorem fine_same (G : GoodS r n ss) (ft : fitS r ss = true) (full : ∀ s ∈ ss, ∀ x ∈ s.2, x ≠ none) {i k : Nat} (hi : i < ss.length) (hk : k < n) : (numsIn (fineR r r.dec) (sAt ss i).1 (smallM (tots ss) (rngs r ss) i k, largeM (tots ss) (rngs r ss) i k)).length = 1 := by
  have ft' : fitsM (tots ss) (rngs r ss) = true := ft
  obtain ⟨hs, ht, hl, _⟩ := G.at hi
  obtain ⟨b0, sl, b1⟩ := G.bnd ft' hi hk
  obtain ⟨s, x, f1, f2, _⟩ := G.nums hi hk
  rw [hs] at f1
  cases f1
  cases x with
  | none => exact absurd rfl (full _ (List.mem_of_getElem? hs) _ (List.mem_of_getElem? f2))
  | some y =>
    have one : ∀ z ∈ numsIn (fineR r r.dec) (sAt ss i).1 (smallM (tots ss) (rngs r ss) i k, largeM (tots ss) (rngs r ss) i k), z = y := fun z hz => by
      obtain ⟨v, h1, h2, h3⟩ := (numsIn_mem (r := fineR r r.dec) (p := (smallM (tots ss) (rngs r ss) i k, largeM (tots ss) (rngs r ss) i k)) (show 0 < (sAt ss i).1 by omega) b0 sl b1).mp hz
      obtain ⟨vs, u, H, e1, e2⟩ := (hsl_vals G ft' hi hk).mpr ⟨h1, h2⟩
      rw [← h3]
      exact (H.row i _ _ hs e1).num k y v f2 e2
    have up : (numsIn (fineR r r.dec) (sAt ss i).1 (smallM (tots ss) (rngs r ss) i k, largeM (tots ss) (rngs r ss) i k)).Pairwise (· < ·) := by
      unfold numsIn
      exact (rngI_up _ _).filter _
    have pos := fine_pos (d := r.dec) G ft hi hk
    generalize numsIn (fineR r r.dec) (sAt ss i).1 (smallM (tots ss) (rngs r ss) i k, largeM (tots ss) (rngs r ss) i k) = l at *
    match l, pos with
    | [_], _ => rfl
    | a :: b :: l, _ =>
      have h1 := one a List.mem_cons_self
      have h2 := one b (List.mem_cons_of_mem _ List.mem_cons_self)
      have := (List.pairwise_cons.mp up).1 b List.mem_cons_self
      omega
end
end Pj

set_option Elab.async false
set_option maxHeartbeats 4000000
set_option linter.all false
set_option maxRecDepth 100000
namespace Pj
open PySem PySem.Spec PyProof.Rows L2
def topS (i : Nat) : Stmt := PySem.Challenge.pw_pollshots_k18_whole_what_more_decimals_s.main.body.getD i (.Pass ⟨0, 0, 0, 0⟩)
abbrev st_is_integer : Stmt := topS 8
abbrev nm_is_integer : List Str := ["value", "low", "high"]
theorem sc_is_integer : FnScope nm_is_integer ["value", "low", "high"] (defScope st_is_integer) := ⟨rfl, rfl, rfl, by decide +kernel, rfl, by decide +kernel, by decide +kernel⟩
abbrev st_is_rule : Stmt := topS 9
abbrev nm_is_rule : List Str := ["value"]
theorem sc_is_rule : FnScope nm_is_rule ["value"] (defScope st_is_rule) := ⟨rfl, rfl, rfl, by decide +kernel, rfl, by decide +kernel, by decide +kernel⟩
abbrev st_require_rule : Stmt := topS 10
abbrev nm_require_rule : List Str := ["rule"]
theorem sc_require_rule : FnScope nm_require_rule ["rule"] (defScope st_require_rule) := ⟨rfl, rfl, rfl, by decide +kernel, rfl, by decide +kernel, by decide +kernel⟩
abbrev st_scale_of : Stmt := topS 11
abbrev nm_scale_of : List Str := ["rule"]
theorem sc_scale_of : FnScope nm_scale_of ["rule"] (defScope st_scale_of) := ⟨rfl, rfl, rfl, by decide +kernel, rfl, by decide +kernel, by decide +kernel⟩
abbrev st_shown : Stmt := topS 12
abbrev nm_shown : List Str := ["rule", "votes", "total", "twice"]
theorem sc_shown : FnScope nm_shown ["rule", "votes", "total"] (defScope st_shown) := ⟨rfl, rfl, rfl, by decide +kernel, rfl, by decide +kernel, by decide +kernel⟩
abbrev st_range_for : Stmt := topS 13
abbrev nm_range_for : List Str := ["rule", "total", "number", "scale", "below", "above", "low", "high"]
theorem sc_range_for : FnScope nm_range_for ["rule", "total", "number"] (defScope st_range_for) := ⟨rfl, rfl, rfl, by decide +kernel, rfl, by decide +kernel, by decide +kernel⟩
abbrev st_are_numbers : Stmt := topS 16
abbrev nm_are_numbers : List Str := ["rule", "value", "number"]
theorem sc_are_numbers : FnScope nm_are_numbers ["rule", "value"] (defScope st_are_numbers) := ⟨rfl, rfl, rfl, by decide +kernel, rfl, by decide +kernel, by decide +kernel⟩
abbrev st_is_shot : Stmt := topS 17
abbrev nm_is_shot : List Str := ["rule", "value"]
theorem sc_is_shot : FnScope nm_is_shot ["rule", "value"] (defScope st_is_shot) := ⟨rfl, rfl, rfl, by decide +kernel, rfl, by decide +kernel, by decide +kernel⟩
abbrev st_good_shots : Stmt := topS 18
abbrev nm_good_shots : List Str := ["rule", "value", "shot"]
theorem sc_good_shots : FnScope nm_good_shots ["rule", "value"] (defScope st_good_shots) := ⟨rfl, rfl, rfl, by decide +kernel, rfl, by decide +kernel, by decide +kernel⟩
abbrev st_require_shots : Stmt := topS 19
abbrev nm_require_shots : List Str := ["rule", "shots"]
theorem sc_require_shots : FnScope nm_require_shots ["rule", "shots"] (defScope st_require_shots) := ⟨rfl, rfl, rfl, by decide +kernel, rfl, by decide +kernel, by decide +kernel⟩
abbrev st_own_range : Stmt := topS 20
abbrev nm_own_range : List Str := ["rule", "total", "number"]
theorem sc_own_range : FnScope nm_own_range ["rule", "total", "number"] (defScope st_own_range) := ⟨rfl, rfl, rfl, by decide +kernel, rfl, by decide +kernel, by decide +kernel⟩
abbrev st_ranges_of : Stmt := topS 21
abbrev nm_ranges_of : List Str := ["rule", "shots", "total", "numbers", "number"]
theorem sc_ranges_of : FnScope nm_ranges_of ["rule", "shots"] (defScope st_ranges_of) := ⟨rfl, rfl, rfl, by decide +kernel, rfl, by decide +kernel, by decide +kernel⟩
abbrev st_staircases : Stmt := topS 23
abbrev nm_staircases : List Str := ["ranges", "lows", "highs", "row", "own", "low", "high", "pair"]
theorem sc_staircases : FnScope nm_staircases ["ranges"] (defScope st_staircases) := ⟨rfl, rfl, rfl, by decide +kernel, rfl, by decide +kernel, by decide +kernel⟩
abbrev st_fits : Stmt := topS 24
abbrev nm_fits : List Str := ["totals", "ranges", "lows", "highs", "later", "total", "earlier", "sure", "row", "low", "high"]
theorem sc_fits : FnScope nm_fits ["totals", "ranges"] (defScope st_fits) := ⟨rfl, rfl, rfl, by decide +kernel, rfl, by decide +kernel, by decide +kernel⟩
abbrev st_narrowed : Stmt := topS 25
abbrev nm_narrowed : List Str := ["ranges", "index", "option", "low", "high", "own", "pair", "row"]
theorem sc_narrowed : FnScope nm_narrowed ["ranges", "index", "option", "low", "high"] (defScope st_narrowed) := ⟨rfl, rfl, rfl, by decide +kernel, rfl, by decide +kernel, by decide +kernel⟩
abbrev st_smallest : Stmt := topS 26
abbrev nm_smallest : List Str := ["totals", "ranges", "index", "option", "low", "high", "middle"]
theorem sc_smallest : FnScope nm_smallest ["totals", "ranges", "index", "option"] (defScope st_smallest) := ⟨rfl, rfl, rfl, by decide +kernel, rfl, by decide +kernel, by decide +kernel⟩
abbrev st_largest : Stmt := topS 27
abbrev nm_largest : List Str := ["totals", "ranges", "index", "option", "low", "high", "middle"]
theorem sc_largest : FnScope nm_largest ["totals", "ranges", "index", "option"] (defScope st_largest) := ⟨rfl, rfl, rfl, by decide +kernel, rfl, by decide +kernel, by decide +kernel⟩
abbrev st_totals_of : Stmt := topS 28
abbrev nm_totals_of : List Str := ["shots", "total", "numbers"]
theorem sc_totals_of : FnScope nm_totals_of ["shots"] (defScope st_totals_of) := ⟨rfl, rfl, rfl, by decide +kernel, rfl, by decide +kernel, by decide +kernel⟩
abbrev st_bounds_of : Stmt := topS 29
abbrev nm_bounds_of : List Str := ["rule", "shots", "totals", "ranges", "found", "index", "row", "option"]
theorem sc_bounds_of : FnScope nm_bounds_of ["rule", "shots"] (defScope st_bounds_of) := ⟨rfl, rfl, rfl, by decide +kernel, rfl, by decide +kernel, by decide +kernel⟩
abbrev st_numbers_in : Stmt := topS 31
abbrev nm_numbers_in : List Str := ["rule", "total", "pair", "found", "number", "own"]
theorem sc_numbers_in : FnScope nm_numbers_in ["rule", "total", "pair"] (defScope st_numbers_in) := ⟨rfl, rfl, rfl, by decide +kernel, rfl, by decide +kernel, by decide +kernel⟩
abbrev st_sharper : Stmt := topS 33
abbrev nm_sharper : List Str := ["rule", "shots", "decimals", "found", "fine", "counts", "total", "numbers", "row", "pair"]
theorem sc_sharper : FnScope nm_sharper ["rule", "shots", "decimals"] (defScope st_sharper) := ⟨rfl, rfl, rfl, by decide +kernel, rfl, by decide +kernel, by decide +kernel⟩
abbrev st_law_bag : Stmt := topS 35
abbrev nm_law_bag : List Str := ["script", "k", "cell", "seed"]
theorem sc_law_bag : FnScope nm_law_bag ["script", "k"] (defScope st_law_bag) := ⟨rfl, rfl, rfl, by decide +kernel, rfl, by decide +kernel, by decide +kernel⟩
abbrev st_law_take : Stmt := topS 36
abbrev nm_law_take : List Str := ["bag", "count", "found"]
theorem sc_law_take : FnScope nm_law_take ["bag", "count"] (defScope st_law_take) := ⟨rfl, rfl, rfl, by decide +kernel, rfl, by decide +kernel, by decide +kernel⟩
abbrev st_law_of : Stmt := topS 37
abbrev nm_law_of : List Str := ["bag", "some"]
theorem sc_law_of : FnScope nm_law_of ["bag", "some"] (defScope st_law_of) := ⟨rfl, rfl, rfl, by decide +kernel, rfl, by decide +kernel, by decide +kernel⟩
abbrev st_law_scale : Stmt := topS 38
abbrev nm_law_scale : List Str := ["rule"]
theorem sc_law_scale : FnScope nm_law_scale ["rule"] (defScope st_law_scale) := ⟨rfl, rfl, rfl, by decide +kernel, rfl, by decide +kernel, by decide +kernel⟩
abbrev st_law_number : Stmt := topS 39
abbrev nm_law_number : List Str := ["rule", "votes", "total", "scale", "whole", "rest"]
theorem sc_law_number : FnScope nm_law_number ["rule", "votes", "total"] (defScope st_law_number) := ⟨rfl, rfl, rfl, by decide +kernel, rfl, by decide +kernel, by decide +kernel⟩
abbrev st_law_rule : Stmt := topS 40
abbrev nm_law_rule : List Str := ["bag"]
theorem sc_law_rule : FnScope nm_law_rule ["bag"] (defScope st_law_rule) := ⟨rfl, rfl, rfl, by decide +kernel, rfl, by decide +kernel, by decide +kernel⟩
abbrev st_law_poll : Stmt := topS 41
abbrev nm_law_poll : List Str := ["bag", "rule", "options", "most", "wide", "votes", "history_so", "shots", "turn", "total", "numbers", "grows", "one", "own"]
theorem sc_law_poll : FnScope nm_law_poll ["bag", "rule", "options", "most", "wide"] (defScope st_law_poll) := ⟨rfl, rfl, rfl, by decide +kernel, rfl, by decide +kernel, by decide +kernel⟩
abbrev st_law_cropped : Stmt := topS 42
abbrev nm_law_cropped : List Str := ["bag", "shots", "often", "found", "total", "numbers", "row", "number"]
theorem sc_law_cropped : FnScope nm_law_cropped ["bag", "shots", "often"] (defScope st_law_cropped) := ⟨rfl, rfl, rfl, by decide +kernel, rfl, by decide +kernel, by decide +kernel⟩
abbrev st_law_spoiled : Stmt := topS 43
abbrev nm_law_spoiled : List Str := ["bag", "rule", "shots", "found", "total", "numbers", "row", "number", "more"]
theorem sc_law_spoiled : FnScope nm_law_spoiled ["bag", "rule", "shots"] (defScope st_law_spoiled) := ⟨rfl, rfl, rfl, by decide +kernel, rfl, by decide +kernel, by decide +kernel⟩
abbrev st_law_tuples : Stmt := topS 44
abbrev nm_law_tuples : List Str := ["rule", "shot", "total", "numbers", "found", "at", "number", "later", "row", "rest", "values", "own"]
theorem sc_law_tuples : FnScope nm_law_tuples ["rule", "shot"] (defScope st_law_tuples) := ⟨rfl, rfl, rfl, by decide +kernel, rfl, by decide +kernel, by decide +kernel⟩
abbrev st_law_under : Stmt := topS 45
abbrev nm_law_under : List Str := ["one", "other", "first", "second"]
theorem sc_law_under : FnScope nm_law_under ["one", "other"] (defScope st_law_under) := ⟨rfl, rfl, rfl, by decide +kernel, rfl, by decide +kernel, by decide +kernel⟩
abbrev st_law_histories : Stmt := topS 46
abbrev nm_law_histories : List Str := ["rule", "shots", "rows", "at", "shot", "votes", "old", "new"]
theorem sc_law_histories : FnScope nm_law_histories ["rule", "shots"] (defScope st_law_histories) := ⟨rfl, rfl, rfl, by decide +kernel, rfl, by decide +kernel, by decide +kernel⟩
abbrev st_law_error : Stmt := topS 47
abbrev nm_law_error : List Str := ["rule", "shots", "decimals", "e"]
theorem sc_law_error : FnScope nm_law_error ["rule", "shots", "decimals"] (defScope st_law_error) := ⟨rfl, rfl, rfl, by decide +kernel, rfl, by decide +kernel, by decide +kernel⟩
abbrev st_law_due : Stmt := topS 48
abbrev nm_law_due : List Str := ["rule", "shots", "decimals", "rows", "found", "total", "numbers", "some", "row", "option", "votes"]
theorem sc_law_due : FnScope nm_law_due ["rule", "shots", "decimals"] (defScope st_law_due) := ⟨rfl, rfl, rfl, by decide +kernel, rfl, by decide +kernel, by decide +kernel⟩
abbrev st_law : Stmt := topS 49
abbrev nm_law : List Str := ["script", "k", "bag", "rule", "shots", "decimals", "rows", "odd", "row", "many"]
theorem sc_law : FnScope nm_law ["script"] (defScope st_law) := ⟨rfl, rfl, rfl, by decide +kernel, rfl, by decide +kernel, by decide +kernel⟩

section
variable {M : Md} {B : Bl M.mg} {f : Addr} {fd : FuncData}
theorem d_is_integer (B : Bl M.mg) (F : Fun M.K "is_integer" "is_integer" st_is_integer f fd) (hm : M.mg "is_integer" = some (.ref f)) (hb : Binds M.K fd ["value", "low", "high"] []) :
    Def M "is_integer" 1 (spP M.K M.mg M_is_integer) := by
  refine def_mk F hm hb sc_is_integer (fun ds o ⟨_, _, _, h, _⟩ => by subst h; rfl) fun fr C ds o h => ?_
  obtain ⟨v, lo, hi, rfl, rfl⟩ := h
  cases v with
  | int i => exact fj_ret (ej_and (ej_isi B.isinstance B.int (ej_var 0) (kit_int _)) fun _ => ej_and (ej_not (ej_isi B.isinstance B.bool (ej_var 0) (kit_bool _))) fun _ => ej_one (ej_lele (ej_var 1) (ej_var 0) fun _ => ej_var 2))
  | bool b => exact fj_ret (ej_and (ej_isi B.isinstance B.int (ej_var 0) (kit_int _)) fun _ => ej_and (k' := false) (ej_not (ej_isi B.isinstance B.bool (ej_var 0) (kit_bool _))) fun z => by cases z)
  | _ => exact fj_ret (ej_and (k' := false) (ej_isi B.isinstance B.int (ej_var 0) (kit_int _)) fun z => by cases z)
theorem d_is_rule (B : Bl M.mg) (D1 : Def M "is_integer" 1 (spP M.K M.mg M_is_integer)) (GH : GC M "HALVES" (.tuple [.str "up", .str "down"])) (F : Fun M.K "is_rule" "is_rule" st_is_rule f fd) (hm : M.mg "is_rule" = some (.ref f)) (hb : Binds M.K fd ["value"] []) :
    Def M "is_rule" 2 (spP M.K M.mg M_is_rule) := by
  refine def_mk F hm hb sc_is_rule (fun ds o ⟨_, h, _⟩ => by subst h; rfl) fun fr C ds o h => ?_
  obtain ⟨v, rfl, rfl⟩ := h
  by_cases hv : ∃ a b, v = .tuple [a, b]
  · obtain ⟨a, b, rfl⟩ := hv
    refine fj_ifR (WJ.tj (wj_or (tj_not (tj_val (ej_isi B.isinstance B.tuple (ej_var 0) (kit_tuple _)))) fun h2 => (wj_or (tj_ne C (ej_len B.len (ej_var 0)) ej_int) fun h1 => (wj_or1 (tj_not (tj_val (ej_call C D1 (aj_cons (ej_at (ej_var 0) ej_int) (aj_cons ej_int (aj_cons ej_int aj_nil))) m_is_integer))))))) (fun h => ?_) (fun h => ?_)
    · refine rj_ret ej_bl (by
        have h' : isI a 0 2 = false := by simpa [isTup, PyData.eqv] using h
        unfold isRule
        split
        · rename_i a' s e
          cases e
          rw [h']; rfl
        · rfl)
    · have h' : isI a 0 2 = true := by simpa [isTup, PyData.eqv] using h
      by_cases hs : ∃ s, b = .str s
      · obtain ⟨s, rfl⟩ := hs
        exact fj_ret (ej_and (ej_isi B.isinstance B.str (ej_at (ej_var 0) ej_int) (kit_str _)) fun _ => ej_one (ej_in (ej_at (ej_var 0) ej_int) (ej_const GH) (hk := rfl))) (by
          show PO.ok (.va (.bool (isI a 0 2 && (s == ("up" : Str) || s == ("down" : Str))))) = _
          rw [h']
          have e1 : (("up" : Str) == s) = (s == ("up" : Str)) := by rw [Bool.eq_iff_iff, beq_iff_eq, beq_iff_eq]; exact eq_comm
          have e2 : (("down" : Str) == s) = (s == ("down" : Str)) := by rw [Bool.eq_iff_iff, beq_iff_eq, beq_iff_eq]; exact eq_comm
          simp [PyData.eqv, isStr, e1, e2])
      · have e : isStr b = false := by cases b <;> first | rfl | exact absurd ⟨_, rfl⟩ hs
        refine fj_ret (ej_and (k' := false) (ej_isi B.isinstance B.str (ej_at (ej_var 0) ej_int) (kit_str _)) fun z => by rw [e] at z; cases z) (by
          rw [e]
          unfold isRule
          split
          · rename_i a' s e'
            cases e'
            exact absurd ⟨_, rfl⟩ hs
          · rfl)
  · have no : isRule v = false := by
      unfold isRule
      split
      · exact absurd ⟨_, _, rfl⟩ hv
      · rfl
    rw [no]
    by_cases ht : ∃ es, v = .tuple es
    · obtain ⟨es, rfl⟩ := ht
      have hl : es.length ≠ 2 := fun e => by
        match es, e with
        | [a, b], _ => exact hv ⟨a, b, rfl⟩
      refine fj_ifT (WJ.tj (wj_or (tj_not (tj_val (ej_isi B.isinstance B.tuple (ej_var 0) (kit_tuple _)))) fun h2 => (wj_or (k' := false) (tj_ne C (ej_len B.len (ej_var 0)) ej_int) fun z => ?_))) ?_ (rj_ret ej_bl)
      · have : (es.length : Int) = 2 := by simpa [PyData.eqv] using z
        omega
      · have : ((es.length : Int) == 2) = false := by rw [beq_eq_false_iff_ne]; omega
        simp [isTup, PyData.eqv, this]
    · have e : isTup v = false := by cases v <;> first | rfl | exact absurd ⟨_, rfl⟩ ht
      exact fj_ifT (WJ.tj (wj_or (k' := false) (tj_not (tj_val (ej_isi B.isinstance B.tuple (ej_var 0) (kit_tuple _)))) fun z => by rw [e] at z; cases z)) (by rw [e]; rfl) (rj_ret ej_bl)
theorem d_require_rule (D1 : Def M "is_rule" 2 (spP M.K M.mg M_is_rule)) (E1 : ExcC M.K M.mg "InvalidRule") (F : Fun M.K "require_rule" "require_rule" st_require_rule f fd) (hm : M.mg "require_rule" = some (.ref f)) (hb : Binds M.K fd ["rule"] []) :
    Def M "require_rule" 3 (spP M.K M.mg M_require_rule) := by
  refine def_mk F hm hb sc_require_rule (fun ds o ⟨_, h, _⟩ => by subst h; rfl) fun fr C ds o h => ?_
  obtain ⟨v, rfl, rfl⟩ := h
  refine fj_ifR (tj_not (tj_val (ej_call C D1 (aj_cons (ej_var 0) aj_nil) m_is_rule))) (fun h => ?_) (fun h => ?_)
  · rw [Bool.not_eq_true'] at h
    rw [h]
    exact sj_raiseE (sj_raise C E1)
  · rw [Bool.not_eq_false'] at h
    rw [h]
    exact fj_end
theorem d_scale_of (F : Fun M.K "scale_of" "scale_of" st_scale_of f fd) (hm : M.mg "scale_of" = some (.ref f)) (hb : Binds M.K fd ["rule"] []) :
    Def M "scale_of" 1 (spP M.K M.mg M_scale_of) := by
  refine def_mk F hm hb sc_scale_of (fun ds o ⟨_, _, h, _⟩ => by subst h; rfl) fun fr C ds o h => ?_
  obtain ⟨r, hr, rfl, rfl⟩ := h
  exact fj_ret (ej_at (ej_tup (aj_cons ej_int (aj_cons ej_int (aj_cons ej_int aj_nil)))) (ej_at (ej_var 0) ej_int) (hj := scl_at hr))
theorem d_shown (B : Bl M.mg) (D1 : Def M "scale_of" 1 (spP M.K M.mg M_scale_of)) (F : Fun M.K "shown" "shown" st_shown f fd) (hm : M.mg "shown" = some (.ref f)) (hb : Binds M.K fd ["rule", "votes", "total"] []) :
    Def M "shown" 2 (spP M.K M.mg M_shown) := by
  refine def_mk F hm hb sc_shown (fun ds o ⟨_, _, _, _, _, _, h, _⟩ => by subst h; rfl) fun fr C ds o h => ?_
  obtain ⟨r, v, t, hr, h1, h2, rfl, rfl⟩ := h
  have hs := scl_pos r
  refine fj_cons (sj_set 3 C (ej_add (ej_mul (ej_mul ej_int (ej_call C D1 (aj_cons (ej_var 0) aj_nil) (m_scale_of hr))) (ej_var 1)) (ej_var 2))) ?_
  exact fj_ret (ej_fdiv (ej_ifI (tj_eq C (ej_at (ej_var 0) ej_int) ej_str (by exact half_up r.up) (by exact sh_half _) sh_up) (fun _ => ej_var 3) (fun _ => ej_sub (ej_var 3) ej_int)) (ej_mul ej_int (ej_var 2)))
theorem d_range_for (B : Bl M.mg) (D1 : Def M "scale_of" 1 (spP M.K M.mg M_scale_of)) (F : Fun M.K "range_for" "range_for" st_range_for f fd) (hm : M.mg "range_for" = some (.ref f)) (hb : Binds M.K fd ["rule", "total", "number"] []) :
    Def M "range_for" 2 (spP M.K M.mg M_range_for) := by
  refine def_mk F hm hb sc_range_for (fun ds o ⟨_, _, _, _, _, _, h, _⟩ => by subst h; rfl) fun fr C ds o h => ?_
  obtain ⟨r, t, n, hr, h1, h2, rfl, rfl⟩ := h
  have hs := scl_pos r
  refine fj_cons (sj_set 3 C (ej_call C D1 (aj_cons (ej_var 0) aj_nil) (m_scale_of hr))) ?_
  refine fj_cons (sj_par 4 5 C (aj_cons (ej_mul (ej_sub (ej_mul ej_int (ej_var 2)) ej_int) (ej_var 1)) (aj_cons (ej_mul (ej_add (ej_mul ej_int (ej_var 2)) ej_int) (ej_var 1)) aj_nil))) ?_
  obtain ⟨dec, up⟩ := r
  have fin : ∀ {up : Bool}, PO.ok (.va (if decide (lowM ⟨dec, up⟩ t n ≤ highM ⟨dec, up⟩ t n) = true then PyData.tuple [.int (lowM ⟨dec, up⟩ t n), .int (highM ⟨dec, up⟩ t n)] else .none)) = .ok (.va (eOp (rangeM ⟨dec, up⟩ t n))) := fun {up} => by
    unfold rangeM
    by_cases h : lowM ⟨dec, up⟩ t n ≤ highM ⟨dec, up⟩ t n
    · rw [if_pos h, if_pos (decide_eq_true h)]; rfl
    · rw [if_neg h, if_neg (by simpa using h)]; rfl
  cases up with
  | true =>
    refine fj_cons (sj_ifT (tj_eq C (ej_at (ej_var 0) ej_int) ej_str (by exact half_up true) (by exact sh_half _) sh_up) (bj_one (sj_par 6 7 C (aj_cons (ej_sub ej_int (ej_fdiv (ej_sub ej_int (ej_var 4)) (ej_mul ej_int (ej_var 3)))) (aj_cons (ej_fdiv (ej_sub (ej_var 5) ej_int) (ej_mul ej_int (ej_var 3))) aj_nil))))) ?_
    refine fj_cons (sj_par 6 7 C (aj_cons (ej_max2 C B.max (ej_var 6) ej_int) (aj_cons (ej_min2 C B.min (ej_var 7) (ej_var 1)) aj_nil))) ?_
    exact fj_ret (ej_ifV (tj_le (ej_var 6) (ej_var 7)) (fun h2 => (ej_tup (aj_cons (ej_var 6) (aj_cons (ej_var 7) aj_nil)))) (fun h2 => ej_non)) fin.symm
  | false =>
    refine fj_cons (sj_ifF (tj_eq C (ej_at (ej_var 0) ej_int) ej_str (by exact half_up false) (by exact sh_half _) sh_up) (bj_one (sj_par 6 7 C (aj_cons (ej_add (ej_fdiv (ej_var 4) (ej_mul ej_int (ej_var 3))) ej_int) (aj_cons (ej_fdiv (ej_var 5) (ej_mul ej_int (ej_var 3))) aj_nil))))) ?_
    refine fj_cons (sj_par 6 7 C (aj_cons (ej_max2 C B.max (ej_var 6) ej_int) (aj_cons (ej_min2 C B.min (ej_var 7) (ej_var 1)) aj_nil))) ?_
    exact fj_ret (ej_ifV (tj_le (ej_var 6) (ej_var 7)) (fun h2 => (ej_tup (aj_cons (ej_var 6) (aj_cons (ej_var 7) aj_nil)))) (fun h2 => ej_non)) fin.symm
end
section
variable {M : Md} {B : Bl M.mg} {f : Addr} {fd : FuncData}
theorem d_are_numbers (B : Bl M.mg) (D1 : Def M "is_integer" 1 (spP M.K M.mg M_is_integer)) (D2 : Def M "scale_of" 1 (spP M.K M.mg M_scale_of)) (F : Fun M.K "are_numbers" "are_numbers" st_are_numbers f fd) (hm : M.mg "are_numbers" = some (.ref f)) (hb : Binds M.K fd ["rule", "value"] []) :
    Def M "are_numbers" 2 (spP M.K M.mg M_are_numbers) := by
  refine def_mk F hm hb sc_are_numbers (fun ds o ⟨_, _, _, h, _⟩ => by subst h; rfl) fun fr C ds o h => ?_
  obtain ⟨r, v, hr, rfl, rfl⟩ := h
  by_cases ht : ∃ es, v = .tuple es
  · obtain ⟨es, rfl⟩ := ht
    have hv : isNumbers r (.tuple es) = ((decide ((2 : Int) ≤ es.length) && decide ((es.length : Int) ≤ 6)) && es.all (isNum r)) := by
      unfold isNumbers
      have e1 : decide (2 ≤ es.length) = decide ((2 : Int) ≤ es.length) := decide_eq_decide.mpr (by omega)
      have e2 : decide (es.length ≤ 6) = decide ((es.length : Int) ≤ 6) := decide_eq_decide.mpr (by omega)
      rw [← e1, ← e2]
    rw [hv]
    refine fj_ifR (WJ.tj (wj_or (tj_not (tj_val (ej_isi B.isinstance B.tuple (ej_var 1) (kit_tuple _)))) fun h1 => (wj_or1 (tj_not (tj_lele ej_int (ej_len B.len (ej_var 1)) fun _ => ej_int))))) (fun h => ?_) (fun h => ?_)
    · refine rj_ret ej_bl ?_
      have h' : (decide ((2 : Int) ≤ es.length) && decide ((es.length : Int) ≤ 6)) = false := by simpa only [isTup, Bool.not_true, Bool.false_or, Bool.not_eq_true'] using h
      rw [h']; rfl
    · have h' : (decide ((2 : Int) ≤ es.length) && decide ((es.length : Int) ≤ 6)) = true := by simpa only [isTup, Bool.not_true, Bool.false_or, Bool.not_eq_false'] using h
      rw [h', Bool.true_and]
      refine fj_ret (ej_allF es (isNum r) C B.all (EJ.frz (ej_lcM (own := [("number", 2)]) (sh := (.one 2)) es id _ C (it_seq (ej_var 1)) (List.map_id es).symm (blkOk_by (own := [("number", 2)]) (N := nm_are_numbers) (sc := (defScope st_are_numbers)) (by decide +kernel)) (fun _ _ _ _ _ => (pg1 2 C.nd)) ?hz fun b hb => ⟨_, rfl, ?hb⟩)))
      case hz =>
        have : es.length ≤ 6 := by simp at h'; omega
        rw [sizeLine_eq]; omega
      case hb =>
        rintro Y ⟨s, H, A, cl, fp, rfl⟩
        exact ej_or (ej_isN (ej_var 2)) fun h2 => (ej_one (ej_call C.blk D1 (aj_cons (ej_var 2) (aj_cons ej_int (aj_cons (ej_call C.blk D2 (aj_cons (ej_var 0) aj_nil) (m_scale_of hr)) aj_nil))) m_is_integer))
  · have e : isTup v = false := by cases v <;> first | rfl | exact absurd ⟨_, rfl⟩ ht
    have no : isNumbers r v = false := by cases v <;> first | rfl | exact absurd ⟨_, rfl⟩ ht
    rw [no]
    exact fj_ifT (WJ.tj (wj_or (k' := false) (tj_not (tj_val (ej_isi B.isinstance B.tuple (ej_var 1) (kit_tuple _)))) fun z => by rw [e] at z; cases z)) (by rw [e]; rfl) (rj_ret ej_bl)
theorem d_is_shot (B : Bl M.mg) (D1 : Def M "is_integer" 1 (spP M.K M.mg M_is_integer)) (D2 : Def M "are_numbers" 2 (spP M.K M.mg M_are_numbers)) (GM : GC M "MOST" (.int 1000000)) (F : Fun M.K "is_shot" "is_shot" st_is_shot f fd) (hm : M.mg "is_shot" = some (.ref f)) (hb : Binds M.K fd ["rule", "value"] []) :
    Def M "is_shot" 3 (spP M.K M.mg M_is_shot) := by
  refine def_mk F hm hb sc_is_shot (fun ds o ⟨_, _, _, h, _⟩ => by subst h; rfl) fun fr C ds o h => ?_
  obtain ⟨r, v, hr, rfl, rfl⟩ := h
  by_cases hv : ∃ a b, v = .tuple [a, b]
  · obtain ⟨a, b, rfl⟩ := hv
    have e0 : isShot r (.tuple [a, b]) = (isI a 1 1000000 && isNumbers r b) := rfl
    rw [e0]
    refine fj_ifR (WJ.tj (wj_or (tj_not (tj_val (ej_isi B.isinstance B.tuple (ej_var 1) (kit_tuple _)))) fun h2 => (wj_or (tj_ne C (ej_len B.len (ej_var 1)) ej_int) fun h1 => (wj_or1 (tj_not (tj_val (ej_call C D1 (aj_cons (ej_at (ej_var 1) ej_int) (aj_cons ej_int (aj_cons (ej_const GM) aj_nil))) m_is_integer))))))) (fun h => ?_) (fun h => ?_)
    · have h' : isI a 1 1000000 = false := by simpa [isTup, PyData.eqv] using h
      exact rj_ret ej_bl (by rw [h']; rfl)
    · have h' : isI a 1 1000000 = true := by simpa [isTup, PyData.eqv] using h
      rw [h', Bool.true_and]
      exact fj_ret (ej_call C D2 (aj_cons (ej_var 0) (aj_cons (ej_at (ej_var 1) ej_int) aj_nil)) (m_are_numbers hr))
  · have no : isShot r v = false := by
      unfold isShot
      split
      · exact absurd ⟨_, _, rfl⟩ hv
      · rfl
    rw [no]
    by_cases ht : ∃ es, v = .tuple es
    · obtain ⟨es, rfl⟩ := ht
      have hl : es.length ≠ 2 := fun e => by
        match es, e with
        | [a, b], _ => exact hv ⟨a, b, rfl⟩
      refine fj_ifT (WJ.tj (wj_or (tj_not (tj_val (ej_isi B.isinstance B.tuple (ej_var 1) (kit_tuple _)))) fun h2 => (wj_or (k' := false) (tj_ne C (ej_len B.len (ej_var 1)) ej_int) fun z => ?_))) ?_ (rj_ret ej_bl)
      · have : (es.length : Int) = 2 := by simpa [PyData.eqv] using z
        omega
      · have : ((es.length : Int) == 2) = false := by rw [beq_eq_false_iff_ne]; omega
        simp [isTup, PyData.eqv, this]
    · have e : isTup v = false := by cases v <;> first | rfl | exact absurd ⟨_, rfl⟩ ht
      exact fj_ifT (WJ.tj (wj_or (k' := false) (tj_not (tj_val (ej_isi B.isinstance B.tuple (ej_var 1) (kit_tuple _)))) fun z => by rw [e] at z; cases z)) (by rw [e]; rfl) (rj_ret ej_bl)
theorem d_good_shots (B : Bl M.mg) (D1 : Def M "is_shot" 3 (spP M.K M.mg M_is_shot)) (GS : GC M "SHOTS" (.int 8)) (F : Fun M.K "good_shots" "good_shots" st_good_shots f fd) (hm : M.mg "good_shots" = some (.ref f)) (hb : Binds M.K fd ["rule", "value"] []) :
    Def M "good_shots" 4 (spP M.K M.mg M_good_shots) := by
  refine def_mk F hm hb sc_good_shots (fun ds o ⟨_, _, _, h, _⟩ => by subst h; rfl) fun fr C ds o h => ?_
  obtain ⟨r, v, hr, rfl, rfl⟩ := h
  by_cases ht : ∃ es, v = .tuple es
  · obtain ⟨es, rfl⟩ := ht
    have hv : isShots r (.tuple es) = ((decide ((1 : Int) ≤ es.length) && decide ((es.length : Int) ≤ 8)) && es.all (isShot r) && es.all fun d => lenOf d == lenOf (es.headD .none)) := by
      unfold isShots
      have e1 : decide (1 ≤ es.length) = decide ((1 : Int) ≤ es.length) := decide_eq_decide.mpr (by omega)
      have e2 : decide (es.length ≤ 8) = decide ((es.length : Int) ≤ 8) := decide_eq_decide.mpr (by omega)
      rw [← e1, ← e2]
    rw [hv]
    refine fj_ifR (WJ.tj (wj_or (tj_not (tj_val (ej_isi B.isinstance B.tuple (ej_var 1) (kit_tuple _)))) fun h3 => (wj_or (tj_not (tj_lele ej_int (ej_len B.len (ej_var 1)) fun _ => (ej_const GS))) fun h2 => (wj_or1 (tj_not (tj_val (ej_allF es (isShot r) C B.all (EJ.frz (ej_lcM (own := [("shot", 2)]) (sh := (.one 2)) es id _ C (it_seq (ej_var 1)) (List.map_id es).symm (blkOk_by (own := [("shot", 2)]) (N := nm_good_shots) (sc := (defScope st_good_shots)) (by decide +kernel)) (fun _ _ _ _ _ => (pg1 2 C.nd)) ?hz fun b hb => ⟨_, rfl, ?hb⟩))))))))) (fun h => ?_) (fun h => ?_)
    case hz =>
      have : es.length ≤ 8 := by simp at h2; omega
      rw [sizeLine_eq]; omega
    case hb =>
      rintro Y ⟨s, H, A, cl, fp, rfl⟩
      exact ej_call C.blk D1 (aj_cons (ej_var 0) (aj_cons (ej_var 2) aj_nil)) (m_is_shot hr)
    · refine rj_ret ej_bl ?_
      simp only [Bool.or_eq_true, Bool.not_eq_true', isTup] at h
      rcases h with h | h | h
      · cases h
      · rw [h]; rfl
      · rw [h, Bool.and_false]; rfl
    · simp only [Bool.or_eq_false_iff, Bool.not_eq_false'] at h
      obtain ⟨ss, rfl, gs⟩ := shots_elim h.2.2
      rw [h.2.1, h.2.2]
      have hl : 1 ≤ ss.length ∧ ss.length ≤ 8 := by
        have := h.2.1
        simp at this
        omega
      match ss, gs, hl with
      | s0 :: st, gs, hl =>
      refine fj_ret (ej_eq C (ej_lenSet C B.len B.set (ns := (s0 :: st).map fun s => (s.2.length : Int)) ((EJ.frz (ej_lcM (own := [("shot", 2)]) (sh := (.one 2)) (s0 :: st) eShot (fun s => .int (s.2.length : Int)) C (it_seq (ej_var 1)) rfl (blkOk_by (own := [("shot", 2)]) (N := nm_good_shots) (sc := (defScope st_good_shots)) (by decide +kernel)) (fun _ _ _ _ _ => (pg1 2 C.nd)) (by rw [sizeLine_eq]; omega) fun b hb => ⟨_, rfl, ?hb⟩)).to (by rw [List.map_map]; rfl)) (by rw [List.length_map]; omega)) ej_int) ?_
      case hb =>
        rintro Y ⟨s, H, A, cl, fp, rfl⟩
        exact ej_lenM b.2 eOI B.len (ej_at (ej_var 2) ej_int)
      rw [Bool.true_and, Bool.true_and]
      congr 3
      rw [Bool.eq_iff_iff, List.all_map, List.all_eq_true]
      show _ ↔ (((distN ((s0 :: st).map fun s => (s.2.length : Int)) : Nat) : Int) == 1) = true
      rw [beq_iff_eq]
      have d1 := dist_one (ns := (s0 :: st).map fun s => (s.2.length : Int)) (n := s0.2.length) (List.mem_cons_self)
      refine ⟨fun e => ?_, fun e s hs => ?_⟩
      rotate_left
      · have := d1.mp (by omega) _ (List.mem_map_of_mem hs)
        show (lenOf (eShot s) == lenOf (eShot s0)) = true
        rw [lenOf_e, lenOf_e, this, beq_self_eq_true]
      · have := d1.mpr fun m hm => by
          obtain ⟨s, hs, em⟩ := List.mem_map.mp hm
          have := e s hs
          have : (lenOf (eShot s) == lenOf (eShot s0)) = true := this
          rw [lenOf_e, lenOf_e, beq_iff_eq] at this
          rw [← em]; exact this
        omega
  · have e : isTup v = false := by cases v <;> first | rfl | exact absurd ⟨_, rfl⟩ ht
    have no : isShots r v = false := by cases v <;> first | rfl | exact absurd ⟨_, rfl⟩ ht
    rw [no]
    exact fj_ifT (WJ.tj (wj_or (k' := false) (tj_not (tj_val (ej_isi B.isinstance B.tuple (ej_var 1) (kit_tuple _)))) fun z => by rw [e] at z; cases z)) (by rw [e]; rfl) (rj_ret ej_bl)
theorem d_require_shots (D1 : Def M "require_rule" 3 (spP M.K M.mg M_require_rule)) (D2 : Def M "good_shots" 4 (spP M.K M.mg M_good_shots)) (E1 : ExcC M.K M.mg "InvalidShots") (F : Fun M.K "require_shots" "require_shots" st_require_shots f fd) (hm : M.mg "require_shots" = some (.ref f)) (hb : Binds M.K fd ["rule", "shots"] []) :
    Def M "require_shots" 5 (spP M.K M.mg M_require_shots) := by
  refine def_mk F hm hb sc_require_shots (fun ds o ⟨_, _, h, _⟩ => by subst h; rfl) fun fr C ds o h => ?_
  obtain ⟨d, v, rfl, ⟨h1, rfl⟩ | ⟨r, hr, rfl, rfl⟩⟩ := h
  · exact fj_st (sj_exprX (ej_callX C D1 (aj_cons (ej_var 0) aj_nil) (m_require_ruleX h1))) rfl
  · refine fj_cons (sj_expr (ej_call C D1 (aj_cons (ej_var 0) aj_nil) (m_require_rule hr))) ?_
    refine fj_ifR (tj_not (tj_val (ej_call C D2 (aj_cons (ej_var 0) (aj_cons (ej_var 1) aj_nil)) (m_good_shots hr)))) (fun h => ?_) (fun h => ?_)
    · rw [Bool.not_eq_true'] at h
      rw [h]
      exact sj_raiseE (sj_raise C E1)
    · rw [Bool.not_eq_false'] at h
      rw [h]
      exact fj_end
theorem d_own_range (D1 : Def M "range_for" 2 (spP M.K M.mg M_range_for)) (F : Fun M.K "own_range" "own_range" st_own_range f fd) (hm : M.mg "own_range" = some (.ref f)) (hb : Binds M.K fd ["rule", "total", "number"] []) :
    Def M "own_range" 3 (spP M.K M.mg M_own_range) := by
  refine def_mk F hm hb sc_own_range (fun ds o ⟨_, _, _, _, _, _, h, _⟩ => by subst h; rfl) fun fr C ds o h => ?_
  obtain ⟨r, t, x, hr, h1, h2, rfl, rfl⟩ := h
  cases x with
  | none => exact fj_ret (ej_if (tj_isN (ej_var 2)) (fun _ => (ej_tup (aj_cons ej_int (aj_cons (ej_var 1) aj_nil)))) fun z => by cases z)
  | some n => exact fj_ret (ej_if (tj_isN (ej_var 2)) (fun z => by cases z) fun _ => (ej_call C D1 (aj_cons (ej_var 0) (aj_cons (ej_var 1) (aj_cons (ej_var 2) aj_nil))) (m_range_for hr h1 h2)))
theorem d_ranges_of (D1 : Def M "own_range" 3 (spP M.K M.mg M_own_range)) (F : Fun M.K "ranges_of" "ranges_of" st_ranges_of f fd) (hm : M.mg "ranges_of" = some (.ref f)) (hb : Binds M.K fd ["rule", "shots"] []) :
    Def M "ranges_of" 4 (spP M.K M.mg M_ranges_of) := by
  refine def_mk F hm hb sc_ranges_of (fun ds o ⟨_, _, _, _, _, _, _, h, _⟩ => by subst h; rfl) fun fr C ds o h => ?_
  obtain ⟨r, n, ss, hr, hl, hs, hn, rfl, rfl⟩ := h
  refine fj_ret (ej_lcM (own := [("total", 2), ("numbers", 3)]) (sh := (.tup [(.one 2), (.one 3)])) ss eShot (fun s => eRow (s.2.map (ownR r s.1))) C (it_seq (ej_var 1)) rfl (blkOk_by (own := [("total", 2), ("numbers", 3)]) (N := nm_ranges_of) (sc := (defScope st_ranges_of)) (by decide +kernel)) (fun _ _ _ _ _ => (pgT C.calm (pgsC (pg1 2 C.nd) (pgsC (pg1 3 C.nd) pgs0)))) (by rw [sizeLine_eq]; omega) fun s hs' => ⟨_, rfl, ?_⟩) (by unfold rngs; rw [List.map_map]; rfl)
  rintro Y ⟨s', H, A, cl, fp, rfl⟩
  obtain ⟨h1, h2, h3⟩ := hs s hs'
  refine (EJ.frz (ej_lcM (own := [("number", 4)]) (sh := (.one 4)) s.2 eOI (fun x => eOp (ownR r s.1 x)) C.blk (it_seq (ej_var 3)) rfl (blkOk_by (own := [("number", 4)]) (N := nm_ranges_of) (by rfl)) (fun _ _ _ _ _ => (pg1 4 C.nd)) (by rw [sizeLine_eq]; omega) fun x hx => ⟨_, rfl, ?_⟩)).to (by unfold eRow; rw [List.map_map]; rfl)
  rintro Y ⟨s'', H', A', cl', fp', rfl⟩
  exact ej_call C.blk.blk D1 (aj_cons (ej_var 0) (aj_cons (ej_var 2) (aj_cons (ej_var 4) aj_nil))) (m_own_range hr (by omega) h2)
end
section
variable {M : Md} {B : Bl M.mg} {f : Addr} {fd : FuncData}
theorem d_narrowed (B : Bl M.mg) (F : Fun M.K "narrowed" "narrowed" st_narrowed f fd) (hm : M.mg "narrowed" = some (.ref f)) (hb : Binds M.K fd ["ranges", "index", "option", "low", "high"] []) :
    Def M "narrowed" 1 (spP M.K M.mg M_narrowed) := by
  refine def_mk F hm hb sc_narrowed (fun ds o ⟨_, _, _, _, _, _, _, _, _, _, _, _, _, h, _⟩ => by subst h; rfl) fun fr C ds o h => ?_
  obtain ⟨m, n, rs, i, k, p, lo, hi, z, s, hi1, hk, hp, rfl, rfl⟩ := h
  obtain ⟨q1, q2, q3⟩ := s.row hi1
  have q4 := s.at hi1 hk
  have hrow : atI (rs.map eRow) (i : Int) = some (eRow (rs.getD i [])) := atI_nat (by rw [List.getElem?_map, q3]; rfl)
  have hpair : atI ((rs.getD i []).map eOp) (k : Int) = some (ePr p) := atI_nat (by rw [List.getElem?_map, q4, hp]; rfl)
  have hix : ixN ((rs.getD i []).map eOp).length (k : Int) = some k := ixN_nat (by rw [List.length_map]; omega)
  refine fj_cons (sj_set 5 C (ej_at (ej_at (ej_var 0) (ej_var 1) (hj := hrow)) (ej_var 2) (hj := hpair))) ?_
  refine fj_cons (sj_set 6 C (ej_tup (aj_cons (ej_max2 C B.max (ej_at (ej_var 5) ej_int) (ej_var 3)) (aj_cons (ej_min2 C B.min (ej_at (ej_var 5) ej_int) (ej_var 4)) aj_nil)))) ?_
  refine fj_cons (sj_set 7 C (ej_lstOf B.list (ej_at (ej_var 0) (ej_var 1) (hj := hrow)))) ?_
  have en : (if decide (max p.1 lo ≤ min p.2 hi) = true then PyData.tuple [.int (max p.1 lo), .int (min p.2 hi)] else .none) = eOp (narR p lo hi) := by
    unfold narR
    by_cases c : max p.1 lo ≤ min p.2 hi
    · rw [if_pos c, if_pos (decide_eq_true c)]; rfl
    · rw [if_neg c, if_neg (by simpa using c)]; rfl
  refine fj_cons (sj_setI 7 ((ej_ifV (tj_le (ej_at (ej_var 6) ej_int) (ej_at (ej_var 6) ej_int)) (fun h1 => (ej_var 6)) (fun h1 => ej_non)).to en) (ej_var 2) (hk := hix)) ?_
  have ml := z.m2
  have lr := s.rows
  refine fj_ret (ej_add (EJ.frz (ej_add (EJ.frz (ej_sl sl_list (ej_var 0) oj_none (oj_some (ej_var 1)) psl_list)) (EJ.frz (ej_lst (aj_cons (ej_frz 7) aj_nil))) (by exact add_ll (by rw [cut_to, List.length_take, List.length_map, sizeLine_eq]; simp; omega)))) (EJ.frz (ej_sl sl_list (ej_var 0) (oj_some (ej_add (ej_var 1) ej_int)) oj_none psl_list)) (by exact add_ll (by rw [cut_to, cut_from1, List.length_append, List.length_take, List.length_drop, List.length_map, sizeLine_eq]; simp; omega))) ?_
  have key : (narrowM rs i k lo hi).map eRow = (rs.map eRow).set i (.list (((rs.getD i []).map eOp).set k (eOp (narR p lo hi)))) := by
    unfold narrowM
    rw [hp, List.map_set]
    unfold eRow
    rw [List.map_set]
    rfl
  rw [key, cut_to, cut_from1, ← set_cut (by rw [List.length_map]; omega)]
theorem d_totals_of (F : Fun M.K "totals_of" "totals_of" st_totals_of f fd) (hm : M.mg "totals_of" = some (.ref f)) (hb : Binds M.K fd ["shots"] []) :
    Def M "totals_of" 1 (spP M.K M.mg M_totals_of) := by
  refine def_mk F hm hb sc_totals_of (fun ds o ⟨_, _, h, _⟩ => by subst h; rfl) fun fr C ds o h => ?_
  obtain ⟨ss, hl, rfl, rfl⟩ := h
  refine fj_ret (ej_lcM (own := [("total", 1), ("numbers", 2)]) (sh := (.tup [(.one 1), (.one 2)])) ss eShot (fun s => .int s.1) C (it_seq (ej_var 0)) rfl (blkOk_by (own := [("total", 1), ("numbers", 2)]) (N := nm_totals_of) (sc := (defScope st_totals_of)) (by decide +kernel)) (fun _ _ _ _ _ => (pgT C.calm (pgsC (pg1 1 C.nd) (pgsC (pg1 2 C.nd) pgs0)))) (by rw [sizeLine_eq]; omega) fun s hs => ⟨_, rfl, ?_⟩)
  rintro Y ⟨s', H, A, cl, fp, rfl⟩
  exact ej_var 1
end
section
variable {M : Md} {B : Bl M.mg} {f : Addr} {fd : FuncData}
theorem d_staircases (B : Bl M.mg) (F : Fun M.K "staircases" "staircases" st_staircases f fd) (hm : M.mg "staircases" = some (.ref f)) (hb : Binds M.K fd ["ranges"] []) :
    Def M "staircases" 1 (spP M.K M.mg M_staircases) := by
  refine def_mk F hm hb sc_staircases (fun ds o ⟨_, _, _, _, _, _, h, _⟩ => by subst h; rfl) fun fr C ds o h => ?_
  obtain ⟨m, n, ps, z, hl, hw, rfl, rfl⟩ := h
  have m2 := z.m2
  have n2 := z.n2
  let R : PD := .list (ps.map fun row => .list (row.map ePr))
  refine fj_cons (ρ1 := [.va R, .ow (.lst []), .ow (.lst []), .un, .un, .un, .un, .un]) (sj_parR 1 2 C (ej_lst aj_nil) (ej_lst aj_nil)) ?_
  refine fj_cons (ρ1 := [.va R, .ow (.lst ((lowsM ps).map eLst)), .ow (.lst []), .un, .un, .un, .un, .un]) ?first ?_
  case first =>
    have eL : lowsM ps = ps.foldl (stairStep max (·.map (·.1))) [] := (stairs_fold _ _ _).symm
    rw [eL]
    refine sj_fold (sh := .one 3) (fun acc : List (List Int) => [.va R, .ow (.lst (acc.map eLst)), .ow (.lst []), .un, .un, .un, .un, .un]) (stairStep max (·.map (·.1))) ps (fun row => .list (row.map ePr)) (fun i acc => acc.length = i ∧ ∀ x ∈ acc, x.length ≤ 6) [] C (it_seq (ej_var 0)) rfl (pg1 3 C.nd) ⟨rfl, fun x h => by cases h⟩ fun i row acc hi I => ⟨_, rfl, ?_, ?_⟩
    · obtain ⟨hi', er⟩ := List.getElem?_eq_some_iff.mp hi
      have lw : row.length ≤ 6 := by rw [← er, hw _ (List.getElem_mem hi')]; exact n2
      have e1 : (row.map fun p => PyData.int p.1) = (row.map (·.1)).map .int := by rw [List.map_map]; rfl
      refine bj_cons (ρ1 := [.va R, .ow (.lst (acc.map eLst)), .ow (.lst []), .va (.list (row.map ePr)), .ow (.lst ((row.map (·.1)).map .int)), .un, .un, .un]) ((sj_lcM 4 (own := [("low", 5), ("high", 6)]) (sh := (.tup [(.one 5), (.one 6)])) row ePr (fun p => .int p.1) C (it_seq (ej_var 3)) rfl (blkOk_by (own := [("low", 5), ("high", 6)]) (N := nm_staircases) (sc := (defScope st_staircases)) (by decide +kernel)) (fun _ _ _ _ _ => (pgT C.calm (pgsC (pg1 5 C.nd) (pgsC (pg1 6 C.nd) pgs0)))) (by rw [sizeLine_eq]; omega) (fun p hp => ⟨_, rfl, ?elt⟩) (sw_true rfl rfl rfl (by decide +kernel))).toE (congrArg (fun l => [Sl.va R, .ow (.lst (acc.map eLst)), .ow (.lst []), .va (.list (row.map ePr)), .ow (.lst l), .un, .un, .un]) e1)) ?_
      case elt =>
        rintro Y ⟨s', H, A, cl, fp, rfl⟩
        exact ej_var 5
      have l8 : acc.length < 9 := by rw [I.1]; omega
      rcases List.eq_nil_or_concat acc with rfl | ⟨ini, last, rfl⟩
      · exact bj_cons (sj_append 1 (ej_if (tj_truO 1 rfl rfl) (fun z => by cases z) (fun _ => ej_frz 4)) (hz := by rw [sizeLine_eq]; simp)) bj_done
      · simp only [List.concat_eq_append] at I l8 ⊢
        have ll : last.length ≤ 6 := I.2 last (by simp)
        have hat : atI ((ini ++ [last]).map eLst) (-1) = some (eLst last) := by
          rw [List.map_append]
          exact atI_last _ _
        have ne : (!((ini ++ [last]).map eLst).isEmpty) = true := by simp
        have em : ((row.map (·.1)).zip last).map (fun p => PyData.int (maxL [p.1, p.2])) = (List.zipWith max (row.map (·.1)) last).map .int := by
          rw [← zip_zw, List.map_map]
          rfl
        have ea : (ini ++ [last]).map eLst ++ [.list ((List.zipWith max (row.map (·.1)) last).map .int)] = (stairStep max (·.map (·.1)) (ini ++ [last]) row).map eLst := by
          have : stairStep max (fun x : List (Int × Int) => x.map (·.1)) (ini ++ [last]) row = (ini ++ [last]) ++ [List.zipWith max (row.map (·.1)) last] := by
            unfold stairStep
            rw [List.getLast?_append]
            rfl
          rw [this, List.map_append (l₁ := ini ++ [last])]
          rfl
        rw [← ea]
        refine bj_cons (sj_append 1 (ej_if (tj_truO 1 rfl rfl) (fun _ => (EJ.frz (ej_lcM (own := [("pair", 7)]) (sh := (.one 7)) ((row.map (·.1)).zip last) (fun p => .tuple [.int p.1, .int p.2]) (fun p => .int (maxL [p.1, p.2])) C (it_zipN (ej_frz 4) (ej_ixO 1 (ej_neg ej_int) rfl rfl ⟨_, _, rfl, rfl⟩ hat) B.zip) (zipD_map PyData.int PyData.int _ _) (blkOk_by (own := [("pair", 7)]) (N := nm_staircases) (sc := (defScope st_staircases)) (by decide +kernel)) (fun _ _ _ _ _ => (pg1 7 C.nd)) (by rw [List.length_zip, List.length_map, sizeLine_eq]; omega) fun p hp => ⟨_, rfl, ?elt2⟩)).to (congrArg PyData.list em)) (fun z => by rw [ne] at z; cases z)) (hz := by rw [List.length_map, sizeLine_eq]; omega)) bj_done
        case elt2 =>
          rintro Y ⟨s', H, A, cl, fp, rfl⟩
          exact ej_max1 (ns := [p.1, p.2]) C.blk B.max (ej_var 7) (Nat.succ_pos _)
    · refine ⟨?_, fun x hx => ?_⟩
      · unfold stairStep
        rw [List.length_append, I.1]
        rfl
      · obtain ⟨hi', er⟩ := List.getElem?_eq_some_iff.mp hi
        have lw : row.length ≤ 6 := by rw [← er, hw _ (List.getElem_mem hi')]; exact n2
        unfold stairStep at hx
        rcases List.mem_append.mp hx with h | h
        · exact I.2 x h
        · rw [List.mem_singleton] at h
          subst h
          split
          · rw [List.length_map]; exact lw
          · rw [List.length_zipWith, List.length_map]; omega
  refine fj_cons (ρ1 := [.va R, .ow (.lst ((lowsM ps).map eLst)), .ow (.lst ((highsM ps).map eLst)), .un, .un, .un, .un, .un]) ?second ?_
  case second =>
    have eH : highsM ps = (ps.reverse.foldl (stairStep min (·.map (·.2))) []).reverse := by unfold highsM; rw [stairs_fold]
    rw [eH]
    refine sj_fold (sh := .one 3) (fun acc : List (List Int) => [.va R, .ow (.lst ((lowsM ps).map eLst)), .ow (.lst (acc.reverse.map eLst)), .un, .un, .un, .un, .un]) (stairStep min (·.map (·.2))) ps.reverse (fun row => .list (row.map ePr)) (fun i acc => acc.length = i ∧ ∀ x ∈ acc, x.length ≤ 6) [] C (it_rev (ej_var 0) B.reversed) List.map_reverse.symm (pg1 3 C.nd) ⟨rfl, fun x h => by cases h⟩ fun i row acc hi I => ⟨_, rfl, ?_, ?_⟩
    · obtain ⟨hi', er⟩ := List.getElem?_eq_some_iff.mp hi
      have lw : row.length ≤ 6 := by rw [← er, hw _ (List.mem_reverse.mp (List.getElem_mem hi'))]; exact n2
      have e1 : (row.map fun p => PyData.int p.2) = (row.map (·.2)).map .int := by rw [List.map_map]; rfl
      refine bj_cons (ρ1 := [.va R, .ow (.lst ((lowsM ps).map eLst)), .ow (.lst (acc.reverse.map eLst)), .va (.list (row.map ePr)), .ow (.lst ((row.map (·.2)).map .int)), .un, .un, .un]) ((sj_lcM 4 (own := [("low", 5), ("high", 6)]) (sh := (.tup [(.one 5), (.one 6)])) row ePr (fun p => .int p.2) C (it_seq (ej_var 3)) rfl (blkOk_by (own := [("low", 5), ("high", 6)]) (N := nm_staircases) (sc := (defScope st_staircases)) (by decide +kernel)) (fun _ _ _ _ _ => (pgT C.calm (pgsC (pg1 5 C.nd) (pgsC (pg1 6 C.nd) pgs0)))) (by rw [sizeLine_eq]; omega) (fun p hp => ⟨_, rfl, ?elt⟩) (sw_true rfl rfl rfl (by decide +kernel))).toE (congrArg (fun l => [Sl.va R, .ow (.lst ((lowsM ps).map eLst)), .ow (.lst (acc.reverse.map eLst)), .va (.list (row.map ePr)), .ow (.lst l), .un, .un, .un]) e1)) ?_
      case elt =>
        rintro Y ⟨s', H, A, cl, fp, rfl⟩
        exact ej_var 6
      have l8 : acc.length < 9 := by
        rw [List.length_reverse] at hi'
        rw [I.1]; omega
      rcases List.eq_nil_or_concat acc with rfl | ⟨ini, last, rfl⟩
      · exact bj_cons (sj_insert0 2 (ej_if (tj_truO 2 rfl rfl) (fun z => by cases z) (fun _ => ej_frz 4)) (hz := by rw [sizeLine_eq]; simp)) bj_done
      · simp only [List.concat_eq_append] at I l8 ⊢
        have ll : last.length ≤ 6 := I.2 last (by simp)
        have hat : atI ((ini ++ [last]).reverse.map eLst) 0 = some (eLst last) := by
          refine atI_nat (j := 0) ?_
          rw [List.reverse_append]
          rfl
        have ne : (!((ini ++ [last]).reverse.map eLst).isEmpty) = true := by simp
        have em : ((row.map (·.2)).zip last).map (fun p => PyData.int (minL [p.1, p.2])) = (List.zipWith min (row.map (·.2)) last).map .int := by
          rw [← zip_zw, List.map_map]
          rfl
        have ea : .list ((List.zipWith min (row.map (·.2)) last).map .int) :: (ini ++ [last]).reverse.map eLst = (stairStep min (·.map (·.2)) (ini ++ [last]) row).reverse.map eLst := by
          have : stairStep min (fun x : List (Int × Int) => x.map (·.2)) (ini ++ [last]) row = (ini ++ [last]) ++ [List.zipWith min (row.map (·.2)) last] := by
            unfold stairStep
            rw [List.getLast?_append]
            rfl
          rw [this, List.reverse_append (as := ini ++ [last])]
          rfl
        rw [← ea]
        refine bj_cons (sj_insert0 2 (ej_if (tj_truO 2 rfl rfl) (fun _ => (EJ.frz (ej_lcM (own := [("pair", 7)]) (sh := (.one 7)) ((row.map (·.2)).zip last) (fun p => .tuple [.int p.1, .int p.2]) (fun p => .int (minL [p.1, p.2])) C (it_zipN (ej_frz 4) (ej_ixO 2 ej_int rfl rfl ⟨_, _, rfl, rfl⟩ hat) B.zip) (zipD_map PyData.int PyData.int _ _) (blkOk_by (own := [("pair", 7)]) (N := nm_staircases) (sc := (defScope st_staircases)) (by decide +kernel)) (fun _ _ _ _ _ => (pg1 7 C.nd)) (by rw [List.length_zip, List.length_map, sizeLine_eq]; omega) fun p hp => ⟨_, rfl, ?elt2⟩)).to (congrArg PyData.list em)) (fun z => by rw [ne] at z; cases z)) (hz := by rw [List.length_map, List.length_reverse, sizeLine_eq]; omega)) bj_done
        case elt2 =>
          rintro Y ⟨s', H, A, cl, fp, rfl⟩
          exact ej_min1 (ns := [p.1, p.2]) C.blk B.min (ej_var 7) (Nat.succ_pos _)
    · refine ⟨?_, fun x hx => ?_⟩
      · unfold stairStep
        rw [List.length_append, I.1]
        rfl
      · obtain ⟨hi', er⟩ := List.getElem?_eq_some_iff.mp hi
        have lw : row.length ≤ 6 := by rw [← er, hw _ (List.mem_reverse.mp (List.getElem_mem hi'))]; exact n2
        unfold stairStep at hx
        rcases List.mem_append.mp hx with h | h
        · exact I.2 x h
        · rw [List.mem_singleton] at h
          subst h
          split
          · rw [List.length_map]; exact lw
          · rw [List.length_zipWith, List.length_map]; omega
  exact fj_ret (ej_tup (aj_cons (ej_frz 1) (aj_cons (ej_frz 2) aj_nil)))
end
section
variable {M : Md} {B : Bl M.mg} {f : Addr} {fd : FuncData}
theorem d_fits (B : Bl M.mg) (D1 : Def M "staircases" 1 (spP M.K M.mg M_staircases)) (F : Fun M.K "fits" "fits" st_fits f fd) (hm : M.mg "fits" = some (.ref f)) (hb : Binds M.K fd ["totals", "ranges"] []) :
    Def M "fits" 2 (spP M.K M.mg M_fits) := by
  refine def_mk F hm hb sc_fits (fun ds o ⟨_, _, _, _, _, _, _, h, _⟩ => by subst h; rfl) fun fr C ds o h => ?_
  obtain ⟨m, n, ts, rs, z, s, ht, rfl, rfl⟩ := h
  have m2 := z.m2
  have n2 := z.n2
  have lr := s.rows
  refine fj_ifR (tj_val (ej_anyF rs (fun row => row.any Option.isNone) C B.any (EJ.frz (ej_lcM (own := [("row", 8)]) (sh := (.one 8)) rs eRow (fun row => .bool (row.any Option.isNone)) C (it_seq (ej_var 1)) rfl (blkOk_by (own := [("row", 8)]) (N := nm_fits) (sc := (defScope st_fits)) (by decide +kernel)) (fun _ _ _ _ _ => (pg1 8 C.nd)) (by rw [sizeLine_eq]; omega) fun row hr => ⟨_, rfl, ?elt1⟩)))) (fun h => ?_) (fun h => ?_)
  case elt1 =>
    rintro Y ⟨s', H, A, cl, fp, rfl⟩
    exact ej_inD C.blk ej_non (ej_var 8) (none_row row) rfl (shRow row).shaped
  · exact rj_ret ej_bl (by unfold fitsM; rw [show hasNone rs = true from h]; rfl)
  have hn : hasNone rs = false := h
  have er := unRs_e hn
  have lu : (unRs rs).length = m := by unfold unRs; rw [List.length_map]; exact lr
  have wu : ∀ row ∈ unRs rs, row.length = n := fun row hr => by
    obtain ⟨q, hq, e⟩ := List.mem_map.mp hr
    rw [← e, List.length_map]; exact s.wide q hq
  have fe : fitsM ts rs = fitsP ts (unRs rs) := by unfold fitsM; rw [hn]; rfl
  rw [fe]
  have Lm := lowsM_len (unRs rs)
  have Hm := highsM_len (unRs rs)
  have Lw := lowsM_wide wu
  have Hw := highsM_wide wu
  generalize hL : lowsM (unRs rs) = L at *
  generalize hH : highsM (unRs rs) = H at *
  have S1 : M_staircases [eRngs rs] (.ok (.va (.tuple [.list (L.map eLst), .list (H.map eLst)]))) := ⟨m, n, unRs rs, z, lu, wu, by rw [← er]; rfl, by rw [hL, hH]⟩
  refine fj_cons (sj_asg (sh := (.tup [(.one 2), (.one 3)])) (ej_call C D1 (aj_cons (ej_var 1) aj_nil) S1) (pgT C.calm (pgsC (pg1 2 C.nd) (pgsC (pg1 3 C.nd) pgs0)))) ?_
  have fin : (ts.zipIdx.findSome? fun p => if okAt ts L H p.2 then none else some (Rs.va (.bool false))) = if fitsP ts (unRs rs) then none else some (Rs.va (.bool false)) := by
    rw [findSome_all (fun p : Int × Nat => okAt ts L H p.2), all_zipIdx]
    unfold fitsP
    rw [hL, hH]
  refine fj_search (sh := (.tup [(.one 4), (.one 5)])) ts.zipIdx (fun p => .tuple [.int ((p.2 : Nat) : Int), .int p.1]) (fun p => if okAt ts L H p.2 then none else some (Rs.va (.bool false))) C (it_en (ej_var 0) B.enumerate) (enD_map PyData.int ts 0) (pgT C.calm (pgsC (pg1 4 C.nd) (pgsC (pg1 5 C.nd) pgs0))) (fun p hp => ⟨_, rfl, ?_⟩) (fun h => ?_) (fun x h => ?_)
  · obtain ⟨_, hlt, et⟩ := List.mem_zipIdx hp
    rw [Nat.zero_add] at hlt
    have hlm : p.2 < m := by omega
    have etd : ts.getD p.2 0 = p.1 := by rw [et, List.getD_eq_getElem?_getD, List.getElem?_eq_getElem hlt]; simp
    obtain ⟨t, l, rfl⟩ : ∃ (t : Int) (l : Nat), p = (t, l) := ⟨p.1, p.2, rfl⟩
    dsimp only at hlm etd hlt ⊢
    have lL : l < L.length := by omega
    have lH : l < H.length := by omega
    have wL : (L.getD l []).length = n := Lw _ (getD_mem lL).1
    have wH : (H.getD l []).length = n := Hw _ (getD_mem lH).1
    have aL : atI (L.map eLst) (l : Int) = some (eLst (L.getD l [])) := at_map lL
    have aH : atI (H.map eLst) (l : Int) = some (eLst (H.getD l [])) := at_map lH
    unfold okAt
    rw [etd]
    refine sr_ifR (tj_val (ej_anyF ((L.getD l []).zip (H.getD l [])) (fun p => decide (p.2 < p.1)) C B.any (EJ.frz (ej_lcM (own := [("low", 9), ("high", 10)]) (sh := (.tup [(.one 9), (.one 10)])) ((L.getD l []).zip (H.getD l [])) (fun p => .tuple [.int p.1, .int p.2]) (fun p => .bool (decide (p.2 < p.1))) C (it_zip (ej_at (ej_var 2) (ej_var 4) (hj := aL)) (ej_at (ej_var 3) (ej_var 4) (hj := aH)) B.zip) (zipD_map PyData.int PyData.int _ _) (blkOk_by (own := [("low", 9), ("high", 10)]) (N := nm_fits) (sc := (defScope st_fits)) (by decide +kernel)) (fun _ _ _ _ _ => (pgT C.calm (pgsC (pg1 9 C.nd) (pgsC (pg1 10 C.nd) pgs0)))) (by rw [List.length_zip, sizeLine_eq]; omega) fun p hp => ⟨_, rfl, ?elt2⟩)))) (fun h => ?_) (fun h => ?_)
    case elt2 =>
      rintro Y ⟨s', H, A, cl, fp, rfl⟩
      exact ej_gt (ej_var 9) (ej_var 10)
    · rw [zw_any, Bool.not_eq_true'] at h
      exact ⟨_, _, bj_ret ej_bl, by rw [h]; rfl⟩
    rw [zw_any, Bool.not_eq_false'] at h
    rw [h, Bool.true_and]
    refine sr_ifR (tj_not (tj_lele (ej_sum (ns := L.getD l []) C B.sum (ej_at (ej_var 2) (ej_var 4) (hj := aL))) (ej_var 5) fun _ => (ej_sum (ns := H.getD l []) C B.sum (ej_at (ej_var 3) (ej_var 4) (hj := aH))))) (fun h2 => ?_) (fun h2 => ?_)
    · rw [Bool.not_eq_true'] at h2
      exact ⟨_, _, bj_ret ej_bl, by rw [h2]; rfl⟩
    rw [Bool.not_eq_false'] at h2
    rw [h2, Bool.true_and, ← findSome_all]
    refine sr_for (sh := .one 6) (List.range l) (fun e => .int (e : Nat)) _ C (it_rng1 (aj_cons (ej_var 4) aj_nil) (by omega) B.range) (by rw [show ((l : Nat) : Int).toNat = l by omega, rngD0]) (pg1 6 C.nd) (fun e he => ⟨_, rfl, ?_⟩)
    rw [List.mem_range] at he
    have eH : e < H.length := by omega
    have eT : e < ts.length := by omega
    have wE : (H.getD e []).length = n := Hw _ (getD_mem eH).1
    have aE : atI (H.map eLst) (e : Int) = some (eLst (H.getD e [])) := at_map eH
    have aT : atI (ts.map PyData.int) (e : Int) = some (.int (ts.getD e 0)) := at_map eT
    have es : (((L.getD l []).zip (H.getD e [])).map fun p => max 0 (p.1 - p.2)).sum = sureM (L.getD l []) (H.getD e []) := by unfold sureM; rw [zw_sure]
    refine sr_cons (sj_set 7 C ((ej_sumF ((L.getD l []).zip (H.getD e [])) (fun p => max 0 (p.1 - p.2)) C B.sum (EJ.frz (ej_lcM (own := [("low", 9), ("high", 10)]) (sh := (.tup [(.one 9), (.one 10)])) ((L.getD l []).zip (H.getD e [])) (fun p => .tuple [.int p.1, .int p.2]) (fun p => .int (max 0 (p.1 - p.2))) C (it_zip (ej_at (ej_var 2) (ej_var 4) (hj := aL)) (ej_at (ej_var 3) (ej_var 6) (hj := aE)) B.zip) (zipD_map PyData.int PyData.int _ _) (blkOk_by (own := [("low", 9), ("high", 10)]) (N := nm_fits) (sc := (defScope st_fits)) (by decide +kernel)) (fun _ _ _ _ _ => (pgT C.calm (pgsC (pg1 9 C.nd) (pgsC (pg1 10 C.nd) pgs0)))) (by rw [List.length_zip, sizeLine_eq]; omega) fun p hp => ⟨_, rfl, ?elt3⟩))).to (congrArg PyData.int es))) ?_
    case elt3 =>
      rintro Y ⟨s', H, A, cl, fp, rfl⟩
      exact ej_max2 C.blk B.max ej_int (ej_sub (ej_var 9) (ej_var 10))
    refine sr_ifR (tj_lt (ej_sub (ej_var 5) (ej_at (ej_var 0) (ej_var 6) (hj := aT))) (ej_var 7)) (fun h3 => ?_) (fun h3 => ?_)
    · have h3' := of_decide_eq_true h3
      exact ⟨_, _, bj_ret ej_bl, by rw [if_neg (by rw [decide_eq_true_eq]; omega)]⟩
    · have h3' := of_decide_eq_false h3
      rw [if_pos (decide_eq_true (by omega))]
      exact bj_done
  · rw [fin] at h
    refine fj_ret ej_bl ?_
    cases e : fitsP ts (unRs rs) with
    | true => rfl
    | false => rw [e] at h; cases h
  · rw [fin] at h
    cases e : fitsP ts (unRs rs) with
    | true => rw [e] at h; cases h
    | false => rw [e] at h; cases h; rfl
end
section
variable {M : Md} {B : Bl M.mg} {f : Addr} {fd : FuncData}
theorem d_smallest (B : Bl M.mg) (D1 : Def M "fits" 2 (spP M.K M.mg M_fits)) (D2 : Def M "narrowed" 1 (spP M.K M.mg M_narrowed)) (F : Fun M.K "smallest" "smallest" st_smallest f fd) (hm : M.mg "smallest" = some (.ref f)) (hb : Binds M.K fd ["totals", "ranges", "index", "option"] []) :
    Def M "smallest" 3 (spP M.K M.mg (M_ext smallM)) := by
  refine def_mk F hm hb sc_smallest (fun ds o ⟨_, _, _, _, _, _, _, _, _, _, _, _, _, h, _⟩ => by subst h; rfl) fun fr C ds o h => ?_
  obtain ⟨m, n, ts, rs, i, k, p, z, s, ht, hi, hk, hp, rfl, rfl⟩ := h
  obtain ⟨q1, q2, q3⟩ := s.row hi
  have q4 := s.at hi hk
  have hrow : atI (rs.map eRow) (i : Int) = some (eRow (rs.getD i [])) := atI_nat (by rw [List.getElem?_map, q3]; rfl)
  have hpair : atI ((rs.getD i []).map eOp) (k : Int) = some (ePr p) := atI_nat (by rw [List.getElem?_map, q4, hp]; rfl)
  let E : Int × Int → En := fun s => [.va (eTots ts), .va (eRngs rs), .va (.int i), .va (.int k), .va (.int s.1), .va (.int s.2), .un]
  refine fj_cons (ρ1 := E p) (sj_asg (sh := (.tup [(.one 4), (.one 5)])) (ej_at (ej_at (ej_var 1) (ej_var 2) (hj := hrow)) (ej_var 3) (hj := hpair)) (pgT C.calm (pgsC (pg1 4 C.nd) (pgsC (pg1 5 C.nd) pgs0)))) ?_
  refine fj_cons (sj_whileR E openB (bsLow fun v => fitsM ts (narrowM rs i k 0 v)) (fun s => (s.2 - s.1).toNat) (fun _ => True) p (p.2 - p.1).toNat C (Nat.le_refl _) trivial fun st _ => ⟨tj_lt (ej_var 4) (ej_var 5), fun ho => ⟨?_, trivial, bsLow_ms ho⟩⟩) ?_
  · refine bj_cons (sj_set 6 C (ej_fdiv (ej_add (ej_var 4) (ej_var 5)) ej_int)) ?_
    refine bj_one (sj_if (tj_val (ej_call C D1 (aj_cons (ej_var 0) (aj_cons (EJ.frz (ej_call C D2 (aj_cons (ej_var 1) (aj_cons (ej_var 2) (aj_cons (ej_var 3) (aj_cons ej_int (aj_cons (ej_var 6) aj_nil))))) (m_narrowed z s hi hk hp))) aj_nil)) (m_fits z (s.nar hi) ht))) (fun h => ?_) (fun h => ?_))
    · have e : bsLow (fun v => fitsM ts (narrowM rs i k 0 v)) st = (st.1, (st.1 + st.2) / 2) := by unfold bsLow; rw [if_pos h]
      rw [e]
      exact bj_cons (sj_set 5 C (ej_var 6)) bj_done
    · have e : bsLow (fun v => fitsM ts (narrowM rs i k 0 v)) st = ((st.1 + st.2) / 2 + 1, st.2) := by unfold bsLow; rw [if_neg (by exact Bool.eq_false_iff.mp h)]
      rw [e]
      exact bj_cons (sj_set 4 C (ej_add (ej_var 6) ej_int)) bj_done
  · refine fj_ret (ej_var 4) ?_
    unfold smallM lowest
    rw [hp]
    rfl
theorem d_largest (B : Bl M.mg) (D1 : Def M "fits" 2 (spP M.K M.mg M_fits)) (D2 : Def M "narrowed" 1 (spP M.K M.mg M_narrowed)) (F : Fun M.K "largest" "largest" st_largest f fd) (hm : M.mg "largest" = some (.ref f)) (hb : Binds M.K fd ["totals", "ranges", "index", "option"] []) :
    Def M "largest" 3 (spP M.K M.mg (M_ext largeM)) := by
  refine def_mk F hm hb sc_largest (fun ds o ⟨_, _, _, _, _, _, _, _, _, _, _, _, _, h, _⟩ => by subst h; rfl) fun fr C ds o h => ?_
  obtain ⟨m, n, ts, rs, i, k, p, z, s, ht, hi, hk, hp, rfl, rfl⟩ := h
  obtain ⟨q1, q2, q3⟩ := s.row hi
  have q4 := s.at hi hk
  have hrow : atI (rs.map eRow) (i : Int) = some (eRow (rs.getD i [])) := atI_nat (by rw [List.getElem?_map, q3]; rfl)
  have hpair : atI ((rs.getD i []).map eOp) (k : Int) = some (ePr p) := atI_nat (by rw [List.getElem?_map, q4, hp]; rfl)
  let E : Int × Int → En := fun s => [.va (eTots ts), .va (eRngs rs), .va (.int i), .va (.int k), .va (.int s.1), .va (.int s.2), .un]
  refine fj_cons (ρ1 := E p) (sj_asg (sh := (.tup [(.one 4), (.one 5)])) (ej_at (ej_at (ej_var 1) (ej_var 2) (hj := hrow)) (ej_var 3) (hj := hpair)) (pgT C.calm (pgsC (pg1 4 C.nd) (pgsC (pg1 5 C.nd) pgs0)))) ?_
  refine fj_cons (sj_whileR E openB (bsHigh2 fun m h => fitsM ts (narrowM rs i k m h)) (fun s => (s.2 - s.1).toNat) (fun _ => True) p (p.2 - p.1).toNat C (Nat.le_refl _) trivial fun st _ => ⟨tj_lt (ej_var 4) (ej_var 5), fun ho => ⟨?_, trivial, bsHigh2_ms ho⟩⟩) ?_
  · refine bj_cons (sj_set 6 C (ej_fdiv (ej_add (ej_add (ej_var 4) (ej_var 5)) ej_int) ej_int)) ?_
    refine bj_one (sj_if (tj_val (ej_call C D1 (aj_cons (ej_var 0) (aj_cons (EJ.frz (ej_call C D2 (aj_cons (ej_var 1) (aj_cons (ej_var 2) (aj_cons (ej_var 3) (aj_cons (ej_var 6) (aj_cons (ej_var 5) aj_nil))))) (m_narrowed z s hi hk hp))) aj_nil)) (m_fits z (s.nar hi) ht))) (fun h => ?_) (fun h => ?_))
    · have e : bsHigh2 (fun m h => fitsM ts (narrowM rs i k m h)) st = ((st.1 + st.2 + 1) / 2, st.2) := by unfold bsHigh2; rw [if_pos h]
      rw [e]
      exact bj_cons (sj_set 4 C (ej_var 6)) bj_done
    · have e : bsHigh2 (fun m h => fitsM ts (narrowM rs i k m h)) st = (st.1, (st.1 + st.2 + 1) / 2 - 1) := by unfold bsHigh2; rw [if_neg (by exact Bool.eq_false_iff.mp h)]
      rw [e]
      exact bj_cons (sj_set 5 C (ej_sub (ej_var 6) ej_int)) bj_done
  · refine fj_ret (ej_var 4) ?_
    unfold largeM
    rw [hp]
    rfl
end
section
variable {M : Md} {B : Bl M.mg} {f : Addr} {fd : FuncData}
theorem d_bounds_of (B : Bl M.mg) (D2 : Def M "totals_of" 1 (spP M.K M.mg M_totals_of)) (D3 : Def M "ranges_of" 4 (spP M.K M.mg M_ranges_of)) (D4 : Def M "fits" 2 (spP M.K M.mg M_fits)) (D5 : Def M "smallest" 3 (spP M.K M.mg (M_ext smallM))) (D6 : Def M "largest" 3 (spP M.K M.mg (M_ext largeM)))
    (F : Fun M.K "bounds_of" "bounds_of" st_bounds_of f fd) (hm : M.mg "bounds_of" = some (.ref f)) (hb : Binds M.K fd ["rule", "shots"] []) :
    Def M "bounds_of" 5 (spP M.K M.mg M_bounds_of) := by
  refine def_mk F hm hb sc_bounds_of (fun ds o ⟨_, _, _, _, h, _⟩ => by subst h; rfl) fun fr C ds o h => ?_
  obtain ⟨r, n, ss, G, rfl, rfl⟩ := h
  have T := m_totals_of (ss := ss) (by have := G.cnt.2; omega)
  have et : ss.map (fun s => PyData.int s.1) = (tots ss).map .int := by unfold tots; rw [List.map_map]; rfl
  rw [et] at T
  refine fj_cons (sj_par 2 3 C (aj_cons (EJ.frz (ej_call C D2 (aj_cons (ej_var 1) aj_nil) T)) (aj_cons (EJ.frz (ej_call C D3 (aj_cons (ej_var 0) (aj_cons (ej_var 1) aj_nil)) (m_ranges_of G))) aj_nil))) ?_
  refine fj_ifR (tj_not (tj_val (ej_call C D4 (aj_cons (ej_var 2) (aj_cons (ej_var 3) aj_nil)) (m_fits (ts := tots ss) G.siz G.shp (by unfold tots; rw [List.length_map]))))) (fun h => ?_) (fun h => ?_)
  · rw [Bool.not_eq_true'] at h
    refine rj_ret ej_non ?_
    unfold bndsOf
    rw [h]
    rfl
  rw [Bool.not_eq_false'] at h
  have c := G.can h
  have eb : bndsOf r n ss = eBnds (boundsM (tots ss) ss.length n (rngs r ss)) := by unfold bndsOf; rw [h]; rfl
  rw [eb]
  have m1 := c.siz.m1
  have m2 := c.siz.m2
  have n2 := c.siz.n2
  generalize hts : tots ss = ts at *
  generalize hrs : rngs r ss = rs at *
  have lr := c.shp.rows
  let row : Nat → List (Int × Int) := fun t => (List.range n).map fun k => (smallM ts rs t k, largeM ts rs t k)
  let eR : List (Int × Int) → PD := fun row => .list (row.map ePr)
  have row0 : atI (rs.map eRow) 0 = some (eRow (rs.getD 0 [])) := at_map (i := 0) (by omega)
  have len0 : (rs.getD 0 []).length = n := (c.shp.row (show 0 < ss.length by omega)).2.1
  refine fj_cons (sj_set 4 C (ej_lst aj_nil)) ?_
  refine fj_cons (ρ1 := [.va (eRu r), .va (eShots ss), .va (eTots ts), .va (eRngs rs), .ow (.lst ((boundsM ts ss.length n rs).map eR)), .un, .un, .un]) ?loop (fj_ret (ej_frz 4))
  have fold1 : boundsM ts ss.length n rs = (List.range ss.length).foldl (fun acc t => acc ++ [row t]) [] := by unfold boundsM; rw [foldl_app]; rfl
  rw [fold1]
  refine sj_fold (sh := .one 5) (fun acc : List (List (Int × Int)) => [.va (eRu r), .va (eShots ss), .va (eTots ts), .va (eRngs rs), .ow (.lst (acc.map eR)), .un, .un, .un]) (fun acc t => acc ++ [row t]) (List.range ss.length) (fun i => .int (i : Nat)) (fun i acc => acc.length = i) [] C (it_rng1 (aj_cons (ej_lenM ss eShot B.len (ej_var 1)) aj_nil) (by omega) B.range) (by rw [show ((ss.length : Nat) : Int).toNat = ss.length by omega, rngD0]) (pg1 5 C.nd) rfl fun j t acc hj I => ⟨_, rfl, ?_, ?_⟩
  · have hjl := (List.getElem?_eq_some_iff.mp hj).1
    rw [List.length_range] at hjl
    rw [List.getElem?_range hjl] at hj
    cases hj
    refine bj_cons (sj_set 6 C (ej_lst aj_nil)) ?_
    have fold2 : row j = (List.range n).foldl (fun acc k => acc ++ [(smallM ts rs j k, largeM ts rs j k)]) [] := by rw [foldl_app]; rfl
    refine bj_cons (ρ1 := [.va (eRu r), .va (eShots ss), .va (eTots ts), .va (eRngs rs), .ow (.lst (acc.map eR)), .va (.int (j : Nat)), .ow (.lst ((row j).map ePr)), .un]) ?inner ?_
    · rw [fold2]
      refine sj_fold (sh := .one 7) (fun q : List (Int × Int) => [.va (eRu r), .va (eShots ss), .va (eTots ts), .va (eRngs rs), .ow (.lst (acc.map eR)), .va (.int (j : Nat)), .ow (.lst (q.map ePr)), .un]) (fun acc k => acc ++ [(smallM ts rs j k, largeM ts rs j k)]) (List.range n) (fun i => .int (i : Nat)) (fun i q => q.length = i) [] C (it_rng1 (aj_cons (ej_lenM (rs.getD 0 []) eOp B.len (ej_at (ej_var 3) ej_int (hj := row0))) aj_nil) (by omega) B.range) (by rw [len0, show ((n : Nat) : Int).toNat = n by omega, rngD0]) (pg1 7 C.nd) rfl fun j2 k q hq J => ⟨_, rfl, ?_, ?_⟩
      · have hql := (List.getElem?_eq_some_iff.mp hq).1
        rw [List.length_range] at hql
        rw [List.getElem?_range hql] at hq
        cases hq
        obtain ⟨p, hp, h0⟩ := c.at hjl hql
        have ea : q.map ePr ++ [.tuple [.int (smallM ts rs j j2), .int (largeM ts rs j j2)]] = (q ++ [(smallM ts rs j j2, largeM ts rs j j2)]).map ePr := by rw [List.map_append]; rfl
        exact bj_cons (ρ1 := [.va (eRu r), .va (eShots ss), .va (eTots ts), .va (eRngs rs), .ow (.lst (acc.map eR)), .va (.int (j : Nat)), .ow (.lst ((q ++ [(smallM ts rs j j2, largeM ts rs j j2)]).map ePr)), .va (.int (j2 : Nat))]) ((sj_append 6 (ej_tup (aj_cons (ej_call C D5 (aj_cons (ej_var 2) (aj_cons (ej_var 3) (aj_cons (ej_var 5) (aj_cons (ej_var 7) aj_nil)))) (m_smallest c.siz c.shp c.len hjl hql hp)) (aj_cons (ej_call C D6 (aj_cons (ej_var 2) (aj_cons (ej_var 3) (aj_cons (ej_var 5) (aj_cons (ej_var 7) aj_nil)))) (m_largest c.siz c.shp c.len hjl hql hp)) aj_nil))) (hz := by rw [List.length_map, J, sizeLine_eq]; omega)).toE (by exact congrArg (fun l => [Sl.va (eRu r), .va (eShots ss), .va (eTots ts), .va (eRngs rs), .ow (.lst (acc.map eR)), .va (.int (j : Nat)), .ow (.lst l), .va (.int (j2 : Nat))]) ea)) bj_done
      · show (q ++ [_]).length = _
        rw [List.length_append, J]
        rfl
    · have ea : acc.map eR ++ [eR (row j)] = (acc ++ [row j]).map eR := by rw [List.map_append]; rfl
      exact bj_cons (ρ1 := [.va (eRu r), .va (eShots ss), .va (eTots ts), .va (eRngs rs), .ow (.lst ((acc ++ [row j]).map eR)), .va (.int (j : Nat)), .va (eR (row j)), .un]) ((sj_append 4 (ej_frz 6) (hz := by rw [List.length_map, I, sizeLine_eq]; omega)).toE (by exact congrArg (fun l => [Sl.va (eRu r), .va (eShots ss), .va (eTots ts), .va (eRngs rs), .ow (.lst l), .va (.int (j : Nat)), .va (eR (row j)), .un]) ea)) bj_done
  · show (acc ++ [_]).length = _
    rw [List.length_append, I]
    rfl
end
section
variable {M : Md} {B : Bl M.mg} {f : Addr} {fd : FuncData}
theorem d_numbers_in (B : Bl M.mg) (D1 : Def M "shown" 2 (spP M.K M.mg M_shown)) (D2 : Def M "range_for" 2 (spP M.K M.mg M_range_for)) (F : Fun M.K "numbers_in" "numbers_in" st_numbers_in f fd) (hm : M.mg "numbers_in" = some (.ref f)) (hb : Binds M.K fd ["rule", "total", "pair"] []) :
    Def M "numbers_in" 3 (spP M.K M.mg M_numbers_in) := by
  refine def_mk F hm hb sc_numbers_in (fun ds o ⟨_, _, _, _, _, _, _, _, h, _⟩ => by subst h; rfl) fun fr C ds o h => ?_
  obtain ⟨r, t, p, hr, ht, h0, h1, h2, rfl, rfl⟩ := h
  -- 0 rule, 1 total, 2 pair, 3 found, 4 number, 5 own
  have hs := scl_pos r
  obtain ⟨b1, b2⟩ := shown_bounds (r := r) (v := p.1) ht.1 h0 (by omega)
  obtain ⟨b3, b4⟩ := shown_bounds (r := r) (v := p.2) ht.1 (by omega) h2
  refine FJ.ofO ?_
  refine fjo_cons (sj_set 3 C (ej_lst aj_nil)) ?_
  refine fjo_cons (ρ1 := [.va (eRu r), .va (.int t), .va (ePr p), .ow (.lst ((numsIn r t p).map .int)), .un, .un]) ?loop (fjo_ret 3)
  have fe : numsIn r t p = (rngI (shownM r p.1 t) (shownM r p.2 t)).foldl (fun acc x => if overlaps p (rangeM r t x) then acc ++ [x] else acc) [] := by
    rw [foldl_filter (fun x => overlaps p (rangeM r t x)) (fun x => x)]
    unfold numsIn
    simp
  rw [fe]
  have len := rngI_len (lo := shownM r p.1 t) (hi := shownM r p.2 t)
  refine SJ.toE (sj_fold (sh := .one 4) (fun acc : List Int => [.va (eRu r), .va (.int t), .va (ePr p), .ow (.lst (acc.map .int)), .un, .un]) (fun acc x => if overlaps p (rangeM r t x) then acc ++ [x] else acc) (rngI (shownM r p.1 t) (shownM r p.2 t)) PyData.int (fun i acc => acc.length ≤ i) [] C (it_rng2 (aj_cons (ej_call C D1 (aj_cons (ej_var 0) (aj_cons (ej_at (ej_var 2) ej_int) (aj_cons (ej_var 1) aj_nil))) (m_shown hr ht.1 ht.2)) (aj_cons (ej_add (ej_call C D1 (aj_cons (ej_var 0) (aj_cons (ej_at (ej_var 2) ej_int) (aj_cons (ej_var 1) aj_nil))) (m_shown hr ht.1 ht.2)) ej_int) aj_nil)) (by omega) B.range) ?items (pg1 4 C.nd) (Nat.le_refl 0) fun i x acc hi J => ⟨_, rfl, ?_, ?_⟩) rfl
  case items =>
    unfold rngD rngI
    rw [List.map_map, show shownM r p.2 t + 1 - shownM r p.1 t = shownM r p.2 t - shownM r p.1 t + 1 by omega]
    rfl
  · have hil := (List.getElem?_eq_some_iff.mp hi).1
    refine bj_cons (sj_set 5 C (ej_call C D2 (aj_cons (ej_var 0) (aj_cons (ej_var 1) (aj_cons (ej_var 4) aj_nil))) (m_range_for hr ht.1 ht.2))) ?_
    generalize rangeM r t x = own
    cases own with
    | none =>
      exact bj_cons (sj_ifF (WJ.tj (wj_and (k' := false) (tj_notN (ej_var 5)) fun z => by cases z)) bj_nil) bj_done
    | some own =>
      have T : (if overlaps p (some own) then acc ++ [x] else acc) = if (true && (decide (own.1 ≤ p.2) && decide (p.1 ≤ own.2))) = true then acc ++ [x] else acc := by rw [Bool.true_and]; rfl
      rw [T]
      refine bj_cons (ρ1 := [.va (eRu r), .va (.int t), .va (ePr p), .ow (.lst ((if (true && (decide (own.1 ≤ p.2) && decide (p.1 ≤ own.2))) = true then acc ++ [x] else acc).map .int)), .va (.int x), .va (ePr own)]) (sj_if (WJ.tj (wj_and (tj_notN (ej_var 5)) fun _ => (wj_and (tj_le (ej_at (ej_var 5) ej_int) (ej_at (ej_var 2) ej_int)) fun _ => (wj_and1 (tj_ge (ej_at (ej_var 5) ej_int) (ej_at (ej_var 2) ej_int)))))) (fun h => ?_) (fun h => ?_)) bj_done
      · have h : (true && (decide (own.1 ≤ p.2) && decide (p.1 ≤ own.2))) = true := h
        rw [if_pos h, List.map_append]
        exact bj_one (SJ.toE (sj_append 3 (ej_var 4) (hz := by rw [List.length_map, sizeLine_eq]; omega)) rfl)
      · have h : (true && (decide (own.1 ≤ p.2) && decide (p.1 ≤ own.2))) = false := h
        rw [h, if_neg Bool.false_ne_true]
        exact bj_nil
  · split
    · rw [List.length_append]; show acc.length + 1 ≤ _; omega
    · omega
end
section
variable {M : Md} {B : Bl M.mg} {f : Addr} {fd : FuncData}
theorem d_sharper (B : Bl M.mg) (D1 : Def M "require_shots" 5 (spP M.K M.mg M_require_shots)) (D2 : Def M "is_integer" 1 (spP M.K M.mg M_is_integer)) (D3 : Def M "bounds_of" 5 (spP M.K M.mg M_bounds_of)) (D4 : Def M "numbers_in" 3 (spP M.K M.mg M_numbers_in)) (E1 : ExcC M.K M.mg "InvalidCount")
    (F : Fun M.K "sharper" "sharper" st_sharper f fd) (hm : M.mg "sharper" = some (.ref f)) (hb : Binds M.K fd ["rule", "shots", "decimals"] []) :
    Def M "sharper" 6 (spP M.K M.mg M_sharper) := by
  refine def_mk F hm hb sc_sharper (fun ds o ⟨_, _, _, h, _⟩ => by subst h; rfl) fun fr C ds o h => ?_
  obtain ⟨d, v, k, rfl, ⟨h1, rfl⟩ | ⟨r, hr, rfl, h2, rfl⟩ | ⟨r, n, ss, G, rfl, rfl, h⟩⟩ := h
  · exact fj_st (sj_exprX (ej_callX C D1 (aj_cons (ej_var 0) (aj_cons (ej_var 1) aj_nil)) (m_require_shotsR h1))) rfl
  · exact fj_st (sj_exprX (ej_callX C D1 (aj_cons (ej_var 0) (aj_cons (ej_var 1) aj_nil)) (m_require_shotsX hr h2))) rfl
  -- 0 rule, 1 shots, 2 decimals, 3 found, 4 fine, 5 counts, 6 total, 7 numbers, 8 row, 9 pair
  refine fj_cons (sj_expr (ej_call C D1 (aj_cons (ej_var 0) (aj_cons (ej_var 1) aj_nil)) (m_require_shots G))) ?_
  rcases h with ⟨hk, rfl⟩ | ⟨j, hj, rfl, rfl⟩
  · exact fj_ifT (tj_not (tj_val (ej_call C D2 (aj_cons (ej_var 2) (aj_cons ej_int (aj_cons ej_int aj_nil))) m_is_integer))) (by rw [hk]; rfl) (sj_raiseE (sj_raise C E1))
  have ik : isI (.int (j : Nat)) 0 2 = true := isI_e.mpr (by omega)
  refine fj_ifF (tj_not (tj_val (ej_call C D2 (aj_cons (ej_var 2) (aj_cons ej_int (aj_cons ej_int aj_nil))) m_is_integer))) (by rw [ik]; rfl) ?_
  have HB := m_bounds_of G
  cases ft : fitS r ss with
  | false =>
    have e1 : bndsOf r n ss = .none := by unfold bndsOf; rw [show fitsM (tots ss) (rngs r ss) = false from ft]; rfl
    have e2 : sharpOf r n ss j = .none := by unfold sharpOf; rw [ft]; rfl
    rw [e1] at HB
    rw [e2]
    refine fj_cons (sj_set 3 C (ej_call C D3 (aj_cons (ej_var 0) (aj_cons (ej_var 1) aj_nil)) HB)) ?_
    exact fj_ifT (tj_isN (ej_var 3)) rfl (rj_ret ej_non)
  | true =>
    have ft' : fitsM (tots ss) (rngs r ss) = true := ft
    let bs := boundsM (tots ss) ss.length n (rngs r ss)
    have e1 : bndsOf r n ss = eBnds bs := by unfold bndsOf; rw [ft']; rfl
    have e2 : sharpOf r n ss j = eRows (sharpM r n ss j) := by unfold sharpOf; rw [ft]; rfl
    rw [e1] at HB
    rw [e2]
    have cn := G.cnt
    have w := G.wide
    have lb : bs.length = ss.length := by show (boundsM _ _ _ _).length = _; unfold boundsM; rw [List.length_map, List.length_range]
    refine fj_cons (sj_set 3 C (ej_call C D3 (aj_cons (ej_var 0) (aj_cons (ej_var 1) aj_nil)) HB)) ?_
    refine fj_ifF (tj_isN (ej_var 3)) rfl ?_
    refine fj_cons (sj_set 4 C (ej_tup (aj_cons (ej_var 2) (aj_cons (ej_at (ej_var 0) ej_int) aj_nil)))) ?_
    let E : List (List Int) → En := fun rows => [.va (eRu r), .va (eShots ss), .va (.int (j : Nat)), .va (eBnds bs), .va (eRu (fineR r j)), .ow (.lst (rows.map fun row => .list (row.map .int))), .un, .un, .un, .un]
    let one : Shot × List (Int × Int) → List Int := fun p => p.2.map fun q => (((numsIn (fineR r j) p.1.1 q).length : Nat) : Int)
    have ef : (ss.zip bs).foldl (fun (rows : List (List Int)) p => rows ++ [one p]) [] = sharpM r n ss j := by
      rw [foldl_app one (ss.zip bs) []]
      show (ss.zip bs).map one = _
      unfold sharpM
      apply List.ext_getElem?
      intro t
      rw [List.getElem?_map, List.getElem?_map]
      by_cases ht : t < ss.length
      · have h1 : (ss.zip bs)[t]? = some (sAt ss t, (List.range n).map fun k => (smallM (tots ss) (rngs r ss) t k, largeM (tots ss) (rngs r ss) t k)) := by
          rw [List.getElem?_zip_eq_some]
          refine ⟨(G.at ht).1, ?_⟩
          show (boundsM _ _ _ _)[t]? = _
          unfold boundsM
          rw [List.getElem?_map, List.getElem?_range ht]
          rfl
        rw [h1, List.getElem?_range ht]
        show some (List.map _ (List.map _ _)) = some (List.map _ _)
        rw [List.map_map]
        rfl
      · rw [List.getElem?_eq_none (by rw [List.length_zip, lb]; omega), List.getElem?_eq_none (by rw [List.length_range]; omega)]
        rfl
    refine fj_cons (ρ1 := E []) (SJ.toE (sj_set 5 C (ej_lst aj_nil)) rfl) ?_
    refine fj_cons (ρ1 := E (sharpM r n ss j)) ?loop (fj_ret (ej_frz 5))
    refine SJ.toE (sj_fold (sh := (.tup [(.tup [(.one 6), (.one 7)]), (.one 8)])) E (fun (rows : List (List Int)) p => rows ++ [one p]) (ss.zip bs) (fun p => .tuple [eShot p.1, .list (p.2.map ePr)]) (fun i rows => rows.length = i) [] C (it_zip (ej_var 1) (ej_var 3) B.zip) (zipD_map eShot (fun row : List (Int × Int) => PyData.list (row.map ePr)) ss bs) (pgT C.calm (pgsC (pgT C.calm (pgsC (pg1 6 C.nd) (pgsC (pg1 7 C.nd) pgs0))) (pgsC (pg1 8 C.nd) pgs0))) rfl fun i p rows hi J => ⟨_, rfl, ?_, ?_⟩) (by rw [ef])
    · have il := (List.getElem?_eq_some_iff.mp hi).1
      rw [List.length_zip, lb] at il
      obtain ⟨z1, z2⟩ := List.getElem?_zip_eq_some.mp hi
      have ht : i < ss.length := by omega
      have es : p.1 = sAt ss i := by
        have := (G.at ht).1
        rw [z1] at this
        exact Option.some.inj this
      have eb : p.2 = (List.range n).map fun k => (smallM (tots ss) (rngs r ss) i k, largeM (tots ss) (rngs r ss) i k) := by
        have z2 : (boundsM (tots ss) ss.length n (rngs r ss))[i]? = some p.2 := z2
        unfold boundsM at z2
        rw [List.getElem?_map, List.getElem?_range ht] at z2
        exact (Option.some.inj z2).symm
      have ea : ∀ (l : List (List Int)) (x : List Int), (l ++ [x]).map (fun row : List Int => PyData.list (row.map .int)) = l.map (fun row : List Int => PyData.list (row.map .int)) ++ [.list (x.map .int)] := fun l x => by rw [List.map_append]; rfl
      have e3 : (one p).map PyData.int = p.2.map fun q => PyData.int (((numsIn (fineR r j) p.1.1 q).length : Nat) : Int) := by show (List.map _ _).map _ = _; rw [List.map_map]; rfl
      refine bj_cons (ρ1 := [.va (eRu r), .va (eShots ss), .va (.int (j : Nat)), .va (eBnds bs), .va (eRu (fineR r j)), .ow (.lst ((rows ++ [one p]).map fun row => .list (row.map .int))), .va (.int p.1.1), .va (eNums p.1.2), .va (.list (p.2.map ePr)), .un]) (SJ.toE (sj_append 5 (EJ.frz (ej_lcM (own := [("pair", 9)]) (sh := (.one 9)) p.2 ePr (fun q => .int (((numsIn (fineR r j) p.1.1 q).length : Nat) : Int)) C (it_seq (ej_var 8)) rfl (blkOk_by (own := [("pair", 9)]) (N := nm_sharper) (sc := (defScope st_sharper)) (by decide +kernel)) (fun _ _ _ _ _ => (pg1 9 C.nd)) (by rw [eb, List.length_map, List.length_range, sizeLine_eq]; omega) fun q hq => ⟨_, rfl, ?elt⟩)) (hz := by have : rows.length = i := J; rw [List.length_map, sizeLine_eq]; omega)) (by rw [ea, e3]; rfl)) bj_done
      rw [eb] at hq
      obtain ⟨k, hk, rfl⟩ := List.mem_map.mp hq
      rw [List.mem_range] at hk
      obtain ⟨b0, sl, b1⟩ := G.bnd ft' ht hk
      have htt := (G.at ht).2.1
      rw [← es] at b1 htt
      rintro Y ⟨s', H, A, cl, fp, rfl⟩
      exact ej_lenM _ PyData.int B.len (EJ.frz (ej_call C.blk D4 (aj_cons (ej_var 4) (aj_cons (ej_var 6) (aj_cons (ej_var 9) aj_nil))) (m_numbers_in (r := fineR r j) (p := (smallM (tots ss) (rngs r ss) i k, largeM (tots ss) (rngs r ss) i k)) hj (by omega) b0 sl b1)))
    · show (rows ++ [_]).length = _
      rw [List.length_append, show rows.length = i from J]
      rfl
end
section
variable {M : Md} {B : Bl M.mg} {f : Addr} {fd : FuncData}
theorem d_law_bag (B : Bl M.mg) (F : Fun M.K "_law_bag" "_law_bag" st_law_bag f fd) (hm : M.mg "_law_bag" = some (.ref f)) (hb : Binds M.K fd ["script", "k"] []) :
    Def M "_law_bag" 1 (spP M.K M.mg M_law_bag) := by
  refine def_mk F hm hb sc_law_bag (fun ds o ⟨_, _, _, h, _⟩ => by subst h; rfl) fun fr C ds o h => ?_
  obtain ⟨ns, k, hk, rfl, rfl⟩ := h
  obtain ⟨c1, c2⟩ := cellM_ok ns k
  refine fj_cons (sj_set 2 C ej_int) ?_
  refine fj_cons (ρ1 := [.va (.list (ns.map .int)), .va (.int k), .va (.int (cellM ns k)), .un]) (sj_if (tj_lt (ej_var 1) (ej_len B.len (ej_var 0))) (fun h => ?_) (fun h => ?_)) ?_
  · have hl : k < ns.length := by simpa using h
    have e : cellM ns k = ns[k] % 10 ^ 60 := by unfold cellM; rw [List.getElem?_eq_getElem hl]
    rw [e]
    exact bj_cons (sj_set 2 C (ej_mod (ej_at (d := .int ns[k]) (ej_var 0) (ej_var 1) (hj := by exact atI_nat (by rw [List.getElem?_map, List.getElem?_eq_getElem hl]; rfl))) (ej_pow ej_int ej_int (by exact pow_ii (by unfold CPow; decide))) (by exact mod_ii (by decide)))) bj_done
  · have hl : ¬ k < ns.length := by simpa using h
    have e : cellM ns k = 0 := by unfold cellM; rw [List.getElem?_eq_none (by omega)]
    rw [e]
    exact bj_nil
  refine fj_cons (sj_set 3 C (ej_add ej_int (ej_mod (ej_add (ej_add (ej_add (ej_mul (ej_mod (ej_var 2) ej_int) ej_int) (ej_mul (ej_mul ej_int (ej_var 1)) (ej_var 1))) (ej_mul ej_int (ej_var 1))) ej_int) ej_int))) ?_
  refine fj_ifR (tj_lt (ej_var 2) (ej_pow ej_int ej_int (by exact pow_ii (by unfold CPow; decide)))) (fun h => ?_) (fun h => ?_)
  · refine rj_ret (ej_lst (aj_cons ej_int (aj_cons (ej_var 3) aj_nil))) ?_
    unfold bagM
    rw [if_pos (by simpa using h)]
    rfl
  · refine fj_ret (ej_lst (aj_cons (ej_var 2) (aj_cons (ej_var 3) aj_nil))) ?_
    unfold bagM
    rw [if_neg (by simpa using h)]
    rfl
theorem d_law_take (F : Fun M.K "_law_take" "_law_take" st_law_take f fd) (hm : M.mg "_law_take" = some (.ref f)) (hb : Binds M.K fd ["bag", "count"] []) :
    Def M "_law_take" 1 (spB M.K M.mg M_law_take) := by
  refine def_mkB F hm hb sc_law_take (fun c ds c' o ⟨_, _, _, _, _, _, h, _⟩ => by subst h; rfl) fun fr C a c ds c' o h => ?_
  obtain ⟨b, n, hb, h1, h2, rfl, rfl, rfl, rfl⟩ := h
  obtain ⟨c1, c2, c3, c4⟩ := hb
  have l1 : 0 ≤ lcgM b.s := Int.emod_nonneg _ (by decide)
  have l2 : lcgM b.s < 2147483647 := Int.emod_lt_of_pos _ (by decide)
  by_cases hc : 0 < b.c
  · have e : takeM b n = (b.c % n, ⟨b.c / n, b.s⟩) := by unfold takeM; rw [if_pos hc]
    rw [e]
    exact fbj_rt (bj_ifT (tj_gt (ej_ixO 0 ej_int rfl rfl ⟨_, _, rfl, rfl⟩ rfl) ej_int) (by simpa using hc)
      (bj_cons (sj_set 2 C (ej_mod (ej_ixO 0 ej_int rfl rfl ⟨_, _, rfl, rfl⟩ rfl) (ej_var 1))) <|
       bj_cons (sj_setI 0 (ej_fdiv (ej_ixO 0 ej_int rfl rfl ⟨_, _, rfl, rfl⟩ rfl) (ej_var 1)) ej_int) <|
       bj_ret (ej_var 2)))
  · have e : takeM b n = (lcgM b.s / 13 * (lcgM b.s % 32749 + 17) % 2147483629 / 32 % n, ⟨b.c, lcgM b.s⟩) := by unfold takeM; rw [if_neg hc]
    rw [e]
    exact fbj_rt (bj_ifF (tj_gt (ej_ixO 0 ej_int rfl rfl ⟨_, _, rfl, rfl⟩ rfl) ej_int) (by simpa using hc)
      (bj_cons (sj_setI (d := .int (lcgM b.s)) 0 (ej_mod (ej_mul (ej_ixO 0 ej_int rfl rfl ⟨_, _, rfl, rfl⟩ rfl) ej_int) ej_int) ej_int) <|
       bj_ret (ej_mod (ej_fdiv (ej_mod (ej_mul (ej_fdiv (ej_ixO 0 ej_int rfl rfl ⟨_, _, rfl, rfl⟩ rfl) ej_int) (ej_add (ej_mod (ej_ixO 0 ej_int rfl rfl ⟨_, _, rfl, rfl⟩ rfl) ej_int) ej_int)) ej_int) ej_int) (ej_var 1))))
theorem d_law_of (B : Bl M.mg) (D1 : Def M "_law_take" 1 (spB M.K M.mg M_law_take)) (F : Fun M.K "_law_of" "_law_of" st_law_of f fd) (hm : M.mg "_law_of" = some (.ref f)) (hb : Binds M.K fd ["bag", "some"] []) :
    Def M "_law_of" 2 (spB M.K M.mg M_law_of) := by
  refine def_mkB F hm hb sc_law_of (fun c ds c' o ⟨_, _, _, _, _, _, _, _, h, _⟩ => by subst h; rfl) fun fr C a c ds c' o h => ?_
  obtain ⟨b, x, es, hb, hx, h1, h2, rfl, rfl, rfl, rfl⟩ := h
  obtain ⟨_, t1, t2⟩ := takeM_ok hb (n := es.length) (by omega)
  refine fbj_rt (bj_ret (ej_at (ej_var 1) (ej_callB 0 C D1 (aj_cons (ej_len B.len (ej_var 1) (hx := hx)) aj_nil) (m_law_take hb (by omega) (by omega))) (hx := hx) (hj := ?_)))
  unfold pickM atI ixN
  rw [if_pos t1, if_pos t2, List.getD_eq_getElem?_getD]
  have : (takeM b es.length).1.toNat < es.length := by omega
  rw [List.getElem?_eq_getElem this]
  show (some _ : Option Nat).bind _ = _
  rw [Option.bind_some, List.getElem?_eq_getElem this]
  rfl
theorem d_law_scale (F : Fun M.K "_law_scale" "_law_scale" st_law_scale f fd) (hm : M.mg "_law_scale" = some (.ref f)) (hb : Binds M.K fd ["rule"] []) :
    Def M "_law_scale" 1 (spP M.K M.mg M_scale_of) := by
  refine def_mk F hm hb sc_law_scale (fun ds o ⟨_, _, h, _⟩ => by subst h; rfl) fun fr C ds o h => ?_
  obtain ⟨r, hr, rfl, rfl⟩ := h
  exact fj_ret (ej_at (EJ.frz (ej_lst (aj_cons ej_int (aj_cons ej_int (aj_cons ej_int aj_nil))))) (ej_at (ej_var 0) ej_int) (hj := scl_at hr))
theorem d_law_number (D1 : Def M "_law_scale" 1 (spP M.K M.mg M_scale_of)) (F : Fun M.K "_law_number" "_law_number" st_law_number f fd) (hm : M.mg "_law_number" = some (.ref f)) (hb : Binds M.K fd ["rule", "votes", "total"] []) :
    Def M "_law_number" 2 (spP M.K M.mg M_law_number) := by
  refine def_mk F hm hb sc_law_number (fun ds o ⟨_, _, _, _, _, _, h, _⟩ => by subst h; rfl) fun fr C ds o h => ?_
  obtain ⟨r, v, t, hr, h1, h2, rfl, rfl⟩ := h
  have hs := scl_pos r
  refine fj_cons (sj_set 3 C (ej_call C D1 (aj_cons (ej_var 0) aj_nil) (m_scale_of hr))) ?_
  refine fj_cons (sj_par 4 5 C (aj_cons (ej_fdiv (ej_mul (ej_var 3) (ej_var 1)) (ej_var 2)) (aj_cons (ej_mod (ej_mul (ej_var 3) (ej_var 1)) (ej_var 2)) aj_nil))) ?_
  refine fj_ifR (WJ.tj (wj_or (tj_gt (ej_mul ej_int (ej_var 5)) (ej_var 2)) fun _ => (wj_or1 (WJ.tj (wj_and (tj_eq C (ej_mul ej_int (ej_var 5)) (ej_var 2)) fun _ => (wj_and1 (tj_eq C (ej_at (ej_var 0) ej_int) ej_str (by exact half_up r.up) (by exact sh_half _) sh_up))))))) (fun h => ?_) (fun h => ?_)
  · refine rj_ret (ej_add (ej_var 4) ej_int) ?_
    unfold numberM
    rw [if_pos ?_]
    simpa [PyData.eqv] using h
  · refine fj_ret (ej_var 4) ?_
    unfold numberM
    rw [if_neg ?_]
    intro z
    exact absurd (by simpa [PyData.eqv] using z) (Bool.eq_false_iff.mp h)
end
section
variable {M : Md} {B : Bl M.mg} {f : Addr} {fd : FuncData}
theorem d_law_poll (B : Bl M.mg) (D1 : Def M "_law_take" 1 (spB M.K M.mg M_law_take)) (D2 : Def M "_law_of" 2 (spB M.K M.mg M_law_of)) (D3 : Def M "_law_number" 2 (spP M.K M.mg M_law_number))
    (F : Fun M.K "_law_poll" "_law_poll" st_law_poll f fd) (hm : M.mg "_law_poll" = some (.ref f)) (hb : Binds M.K fd ["bag", "rule", "options", "most", "wide"] []) :
    Def M "_law_poll" 3 (spB M.K M.mg M_law_poll) := by
  refine def_mkB F hm hb sc_law_poll (fun c ds c' o ⟨_, _, _, _, _, _, _, _, _, _, _, h, _⟩ => by subst h; rfl) fun fr C a c ds c' o h => ?_
  obtain ⟨r, n, m, w, b, hb, hr, hn, hm', hw, rfl, rfl, rfl, rfl⟩ := h
  obtain ⟨d1, o1, p1, I0, t1, t2⟩ := poll_start_ok (r := r) hb hn hm' hw
  have dl : (drawsM n (w + 1) b).1.length = n := by unfold drawsM; rw [mapS_length, List.length_range]
  obtain ⟨_, k2, k3⟩ := takeM_ok o1 (n := n) (by omega)
  have blk : ∀ (s : PollS), True := fun _ => trivial
  let E : PollS → En := fun s => [.br a (eBg s.bag), .va (eRu r), .va (.int n), .va (.int m), .va (.int w), .ow (.lst (s.votes.map .int)), .ow (.lst (s.rows.map eInts)), .va (.tuple (s.shots.map eShI)), .un, .un, .un, .un, .un, .un]
  have e0 : PO.ok (.va (ePoll (pollM r n m w b))) = .ok (.va (.tuple [.list ((pollM r n m w b).rows.map eInts), .tuple ((pollM r n m w b).shots.map eShI)])) := rfl
  rw [e0]
  refine fbj_rt (ρ' := (E (pollM r n m w b)).set 6 (.va (.list ((pollM r n m w b).rows.map eInts)))) (r := .va (.tuple [.list ((pollM r n m w b).rows.map eInts), .tuple ((pollM r n m w b).shots.map eShI)])) (bj_cons (ρ1 := [.br a (eBg (drawsM n (w + 1) b).2), .va (eRu r), .va (.int n), .va (.int m), .va (.int w), .ow (.lst ((drawsM n (w + 1) b).1.map .int)), .un, .un, .un, .un, .un, .un, .un, .un]) ?votes
    (bj_cons (ρ1 := [.br a (eBg (pollBag n w b)), .va (eRu r), .va (.int n), .va (.int m), .va (.int w), .ow (.lst ((pollVotes n w b).map .int)), .un, .un, .un, .un, .un, .un, .un, .un]) ?set
    (bj_cons (ρ1 := [.br a (eBg (pollBag n w b)), .va (eRu r), .va (.int n), .va (.int m), .va (.int w), .ow (.lst ((pollVotes n w b).map .int)), .ow (.lst []), .va (.tuple []), .un, .un, .un, .un, .un, .un]) (sj_parR 6 7 C (ej_lst aj_nil) (ej_tup aj_nil))
    (bj_cons (ρ1 := E (pollM r n m w b)) ?loop
    (bj_ret (ej_tup (aj_cons (ej_frz 6) (aj_cons (ej_var 7) aj_nil)))))))) rfl rfl
  case votes =>
    refine SJ.to (sj_setC (own := [("one", 12)]) (sh := (.one 12)) 5 C (it_rng1 (aj_cons (ej_var 2) aj_nil) (by omega) B.range) (blkOk_by (own := [("one", 12)]) (N := nm_law_poll) (sc := (defScope st_law_poll)) (by decide +kernel)) (fun _ _ _ _ _ => (pg1 12 C.nd)) (lcJ_fold (fun b => [.br a (eBg b), .va (eRu r), .va (.int n), .va (.int m), .va (.int w), .un, .un, .un, .un, .un, .un, .un, .un, .un]) (fun (i : Nat) => .int (0 + (i : Nat))) PyData.int (fun b (_ : Nat) => takeM b (w + 1)) Bg.ok (List.range n) b hb (fun i b _ hb => ?turn)) (by rw [List.length_map]; show (drawsM n (w + 1) b).1.length < _; rw [dl, sizeLine_eq]; omega) (sw_true rfl rfl rfl (by decide +kernel)))
    case turn =>
      refine ⟨?_, (takeM_ok hb (by omega)).1⟩
      apply lcturn rfl
      · rintro Y ⟨s, H, A, cl, fp, rfl⟩
        exact ej_callB 0 C.blk D1 (aj_cons (ej_add (ej_var 4) ej_int) aj_nil) (m_law_take hb (by omega) (by omega))
      · rfl
      · rfl
  case set =>
    have es : (pollVotes n w b).map PyData.int = ((drawsM n (w + 1) b).1.map PyData.int).set (takeM (takeM (drawsM n (w + 1) b).2 w).2 n).1.toNat (.int (1 + (takeM (drawsM n (w + 1) b).2 w).1)) := by
      unfold pollVotes
      rw [List.map_set]
    rw [es]
    refine SJ.to (sj_setI 5 (ej_add ej_int (ej_callB 0 C D1 (aj_cons (ej_var 4) aj_nil) (m_law_take d1 (by omega) (by omega)))) (ej_callB 0 C D1 (aj_cons (ej_var 2) aj_nil) (m_law_take o1 (by omega) (by omega))) (hk := ?_))
    unfold ixN
    rw [List.length_map, dl, if_pos k2, if_pos k3]
  case loop =>
    refine sj_fold E (pollStep r w) (List.range (pollTurns n m w b).toNat) (fun (i : Nat) => .int (0 + (i : Nat))) (PollInv r n w) ⟨pollVotes n w b, [], [], (takeM (pollBag n w b) m).2⟩ C (it_rng1 (aj_cons (ej_add ej_int (ej_callB 0 C D1 (aj_cons (ej_var 3) aj_nil) (m_law_take p1 (by omega) (by omega)))) aj_nil) (by have := t1; have := t2; unfold pollTurns at *; omega) B.range) rfl (pg1 8 C.nd) I0 fun i j s hi I => ⟨_, rfl, ?_, ?_⟩
    · have hi' : i < (pollTurns n m w b).toNat := by
        have := (List.getElem?_eq_some_iff.mp hi).1
        rwa [List.length_range] at this
      obtain ⟨I', iv⟩ := poll_step_ok hn hw hm' (by omega) I
      obtain ⟨b1, g1, g2⟩ := takeM_ok I.bag (n := 3) (by decide)
      have hg := growsOf_ok (w := w) (b := s.bag) (by omega)
      have pick : pickM [PyData.int 1, .int 2, .int (w / 3 + 1)] (takeM s.bag 3).1 = .int (growsOf w s.bag) := by
        have : (takeM s.bag 3).1 = 0 ∨ (takeM s.bag 3).1 = 1 ∨ (takeM s.bag 3).1 = 2 := by omega
        unfold growsOf
        rcases this with e | e | e <;> rw [e] <;> rfl
      have hof : M_law_of (eBg s.bag) [.list [.int 1, .int 2, .int (w / 3 + 1)]] (eBg (takeM s.bag 3).2) (.ok (.va (.int (growsOf w s.bag)))) := by
        rw [← pick]
        exact m_law_of (es := [.int 1, .int 2, .int (w / 3 + 1)]) I.bag rfl (by simp) (by simp)
      have eE : E (pollStep r w s j) = [.br a (eBg (mapS (growOne (growsOf w s.bag)) s.votes (takeM s.bag 3).2).2), .va (eRu r), .va (.int n), .va (.int m), .va (.int w), .ow (.lst ((mapS (growOne (growsOf w s.bag)) s.votes (takeM s.bag 3).2).1.map .int)), .ow (.lst (s.rows.map eInts ++ [eInts s.votes])), .va (.tuple (s.shots.map eShI ++ [.tuple [.int s.votes.sum, eInts (numsM r s.votes)]])), .un, .un, .un, .un, .un, .un] := by
        show [Sl.br a (eBg (pollStep r w s j).bag), _, _, _, _, Sl.ow (.lst ((pollStep r w s j).votes.map .int)), Sl.ow (.lst ((s.rows ++ [s.votes]).map eInts)), Sl.va (.tuple ((s.shots ++ [(s.votes.sum, numsM r s.votes)]).map eShI)), _, _, _, _, _, _] = _
        rw [List.map_append, List.map_append]
        rfl
      rw [eE]
      refine bj_cons (sj_set 9 C (ej_sum (ns := s.votes) C B.sum (ej_frz 5))) ?_
      refine bj_cons (sj_append 6 (ej_tupOf B.tuple (ej_var 5)) (hz := by rw [List.length_map, I.cnt, sizeLine_eq]; omega)) ?_
      refine bj_cons (sj_set 10 C (ej_tupOf (ds := (numsM r s.votes).map .int) B.tuple (EJ.frz (ej_lcM (own := [("own", 13)]) (sh := (.one 13)) s.votes PyData.int (fun v => .int (numberM r v s.votes.sum)) C (it_seq (ej_var 5)) rfl (blkOk_by (own := [("own", 13)]) (N := nm_law_poll) (sc := (defScope st_law_poll)) (by decide +kernel)) (fun _ _ _ _ _ => (pg1 13 C.nd)) (by have := iv.2.1; rw [sizeLine_eq]; omega) fun v hv => ⟨_, rfl, ?_⟩)) (by show some _ = some _; unfold numsM; rw [List.map_map]; rfl))) ?_
      · rintro Y ⟨s', H, A, cl, fp, rfl⟩
        exact ej_call C.blk D3 (aj_cons (ej_var 1) (aj_cons (ej_var 13) (aj_cons (ej_var 9) aj_nil))) (m_law_number hr (by have := iv.2.2.2.1; omega) iv.2.2.2.2)
      refine bj_cons (sj_set 7 C (ej_add (ej_var 7) (ej_tup (aj_cons (ej_tup (aj_cons (ej_var 9) (aj_cons (ej_var 10) aj_nil))) aj_nil)) (by exact add_tt (by
        have h1 : s.shots.length = i := by rw [I.shots, List.length_map, I.cnt]
        rw [List.length_map, h1, sizeLine_eq]
        simp; omega)))) ?_
      refine bj_cons (sj_set 11 C (ej_callB 0 C D2 (aj_cons (EJ.frz (ej_lst (aj_cons ej_int (aj_cons ej_int (aj_cons (ej_add (ej_fdiv (ej_var 4) ej_int) ej_int) aj_nil))))) aj_nil) hof)) ?_
      refine bj_cons (sj_setC (own := [("own", 13)]) (sh := (.one 13)) 5 C (it_seq (ej_var 5)) (blkOk_by (own := [("own", 13)]) (N := nm_law_poll) (sc := (defScope st_law_poll)) (by decide +kernel)) (fun _ _ _ _ _ => (pg1 13 C.nd)) (lcJ_fold (fun b => [.br a (eBg b), .va (eRu r), .va (.int n), .va (.int m), .va (.int w), .va (.list (s.votes.map .int)), .ow (.lst (s.rows.map eInts ++ [eInts s.votes])), .va (.tuple (s.shots.map eShI ++ [.tuple [.int s.votes.sum, eInts (numsM r s.votes)]])), .va (.int (0 + (j : Nat))), .va (.int s.votes.sum), .va (eInts (numsM r s.votes)), .va (.int (growsOf w s.bag)), .un, .un]) PyData.int PyData.int (growOne (growsOf w s.bag)) Bg.ok s.votes (takeM s.bag 3).2 b1 (fun v b _ hb => ?turn)) (by rw [List.length_map, mapS_length, I.len, sizeLine_eq]; omega) (sw_true rfl rfl rfl (by decide +kernel))) ?_
      case turn =>
        obtain ⟨q1, q2, q3⟩ := takeM_ok hb (n := growsOf w s.bag + 1) (by omega)
        obtain ⟨r1, r2, r3⟩ := takeM_ok q1 (n := 2) (by decide)
        refine ⟨?_, r1⟩
        apply lcturn rfl
        · rintro Y ⟨s', H, A, cl, fp, rfl⟩
          exact ej_add (ej_var 13) (ej_mul (ej_callB 0 C.blk D1 (aj_cons (ej_add (ej_var 11) ej_int) aj_nil) (m_law_take hb (by omega) (by omega))) (ej_callB 0 C.blk D1 (aj_cons ej_int aj_nil) (m_law_take q1 (by decide) (by decide))))
        · rfl
        · rfl
      exact bj_done
    · have hi' : i < (pollTurns n m w b).toNat := by
        have := (List.getElem?_eq_some_iff.mp hi).1
        rwa [List.length_range] at this
      exact (poll_step_ok hn hw hm' (by omega) I).1
end
section
variable {M : Md} {B : Bl M.mg} {f : Addr} {fd : FuncData}
theorem d_law_cropped (B : Bl M.mg) (D1 : Def M "_law_take" 1 (spB M.K M.mg M_law_take)) (F : Fun M.K "_law_cropped" "_law_cropped" st_law_cropped f fd) (hm : M.mg "_law_cropped" = some (.ref f)) (hb : Binds M.K fd ["bag", "shots", "often"] []) :
    Def M "_law_cropped" 2 (spB M.K M.mg M_law_cropped) := by
  refine def_mkB F hm hb sc_law_cropped (fun c ds c' o ⟨_, _, _, _, _, _, _, _, h, _⟩ => by subst h; rfl) fun fr C a c ds c' o h => ?_
  obtain ⟨b, ss, w, hb, hw, hl, hs, rfl, rfl, rfl, rfl⟩ := h
  let E : List Shot × Bg → En := fun st => [.br a (eBg st.2), .va (eShots ss), .va (.int w), .va (eShots st.1), .un, .un, .un, .un]
  refine fbj_rt (ρ' := E (cropM w b ss)) (r := .va (eShots (cropM w b ss).1)) (bj_cons (ρ1 := E ([], b)) (sj_set 3 C (ej_tup aj_nil)) (bj_cons (ρ1 := E (cropM w b ss)) ?loop (bj_ret (ej_var 3)))) rfl rfl
  refine sj_fold (sh := (.tup [(.one 4), (.one 5)])) E (cropS w) ss eShot (fun i st => st.2.ok ∧ st.1.length = i) ([], b) C (it_seq (ej_var 1)) rfl (pgT C.calm (pgsC (pg1 4 C.nd) (pgsC (pg1 5 C.nd) pgs0))) ⟨hb, rfl⟩ fun i s st hi I => ⟨_, rfl, ?_, ?_⟩
  · have hsl : s.2.length ≤ 100 := hs s (List.mem_of_getElem? hi)
    have hil : i < ss.length := (List.getElem?_eq_some_iff.mp hi).1
    obtain ⟨I1, I2⟩ := I
    refine bj_cons (sj_setC (own := [("number", 7)]) (sh := (.one 7)) 6 C (it_seq (ej_var 5)) (blkOk_by (own := [("number", 7)]) (N := nm_law_cropped) (sc := (defScope st_law_cropped)) (by decide +kernel)) (fun _ _ _ _ _ => (pg1 7 C.nd)) (lcJ_fold (fun b => [.br a (eBg b), .va (eShots ss), .va (.int w), .va (eShots st.1), .va (.int s.1), .va (eNums s.2), .un, .un]) eOI eOI (cropN w) Bg.ok s.2 st.2 I1 (fun x b _ hb => ?turn)) (by rw [List.length_map, mapS_length, sizeLine_eq]; omega) (sw_true rfl rfl rfl (by decide +kernel))) ?_
    case turn =>
      refine ⟨?_, (takeM_ok hb hw.1).1⟩
      apply lcturn rfl
      · rintro Y ⟨s', H, A, cl, fp, rfl⟩
        by_cases c : (takeM b w).1 = 0
        · have e : cropN w b x = (none, (takeM b w).2) := by unfold cropN; rw [if_pos c]
          rw [e]
          exact ej_if (k := true) (tj_eq C.blk (ej_callB 0 C.blk D1 (aj_cons (ej_var 2) aj_nil) (m_law_take hb hw.1 (by omega))) ej_int (hk := by exact beq_iff_eq.mpr c)) (fun _ => ej_non) (fun z => nomatch z)
        · have e : cropN w b x = (x, (takeM b w).2) := by unfold cropN; rw [if_neg c]
          rw [e]
          exact ej_if (k := false) (tj_eq C.blk (ej_callB 0 C.blk D1 (aj_cons (ej_var 2) aj_nil) (m_law_take hb hw.1 (by omega))) ej_int (hk := by exact beq_eq_false_iff_ne.mpr c)) (fun z => nomatch z) (fun _ => ej_var 7)
      · rfl
      · rfl
    have ea : st.1.map eShot ++ [eShot (s.1, (mapS (cropN w) s.2 st.2).1)] = (cropS w st s).1.map eShot := by
      show _ = (st.1 ++ [_]).map eShot
      rw [List.map_append]
      rfl
    exact bj_cons (ρ1 := [.br a (eBg (cropS w st s).2), .va (eShots ss), .va (.int w), .va (eShots (cropS w st s).1), .va (.int s.1), .va (eNums s.2), .va (.list ((mapS (cropN w) s.2 st.2).1.map eOI)), .un]) ((sj_set 3 C (ej_add (ej_var 3) (ej_tup (aj_cons (ej_tup (aj_cons (ej_var 4) (aj_cons (ej_tupOf B.tuple (ej_frz 6)) aj_nil))) aj_nil)) (by exact add_tt (by rw [List.length_map, I2, sizeLine_eq]; simp; omega)))).toE (by exact congrArg (fun l => [Sl.br a (eBg (cropS w st s).2), .va (eShots ss), .va (.int w), .va (.tuple l), .va (.int s.1), .va (eNums s.2), .va (.list ((mapS (cropN w) s.2 st.2).1.map eOI)), .un]) ea)) bj_done
  · obtain ⟨I1, I2⟩ := I
    exact ⟨(cropN_inv hw.1 s.2 I1).1, by show (st.1 ++ [_]).length = _; rw [List.length_append, I2]; rfl⟩
end
section
variable {M : Md} {B : Bl M.mg} {f : Addr} {fd : FuncData}
theorem d_law_spoiled (B : Bl M.mg) (D1 : Def M "_law_of" 2 (spB M.K M.mg M_law_of)) (D2 : Def M "_law_scale" 1 (spP M.K M.mg M_scale_of)) (F : Fun M.K "_law_spoiled" "_law_spoiled" st_law_spoiled f fd) (hm : M.mg "_law_spoiled" = some (.ref f)) (hb : Binds M.K fd ["bag", "rule", "shots"] []) :
    Def M "_law_spoiled" 3 (spB M.K M.mg M_law_spoiled) := by
  refine def_mkB F hm hb sc_law_spoiled (fun c ds c' o ⟨_, _, _, _, _, _, _, _, h, _⟩ => by subst h; rfl) fun fr C a c ds c' o h => ?_
  obtain ⟨b, r, ss, hb, hr, hl, hs, rfl, rfl, rfl, rfl⟩ := h
  -- 0 bag, 1 rule, 2 shots, 3 found, 4 total, 5 numbers, 6 row, 7 number, 8 more
  let E : List Shot × Bg → En := fun st => [.br a (eBg st.2), .va (eRu r), .va (eShots ss), .va (eShots st.1), .un, .un, .un, .un, .un]
  refine fbj_rt (ρ' := E (spoilM r b ss)) (r := .va (eShots (spoilM r b ss).1)) (bj_cons (ρ1 := E ([], b)) (sj_set 3 C (ej_tup aj_nil)) (bj_cons (ρ1 := E (spoilM r b ss)) ?loop (bj_ret (ej_var 3)))) rfl rfl
  refine sj_fold (sh := (.tup [(.one 4), (.one 5)])) E (spoilS r) ss eShot (fun i st => st.2.ok ∧ st.1.length = i) ([], b) C (it_seq (ej_var 2)) rfl (pgT C.calm (pgsC (pg1 4 C.nd) (pgsC (pg1 5 C.nd) pgs0))) ⟨hb, rfl⟩ fun i s st hi I => ⟨_, rfl, ?_, ?_⟩
  · have hsl : s.2.length ≤ 100 := hs s (List.mem_of_getElem? hi)
    have hil : i < ss.length := (List.getElem?_eq_some_iff.mp hi).1
    obtain ⟨I1, I2⟩ := I
    obtain ⟨q1, q2⟩ := spoilN_inv (r := r) s.2 I1
    obtain ⟨t1, t2, t3⟩ := takeM_ok q1 (n := 5) (by decide)
    have T5 := m_law_of (x := .list [.int 0, .int 0, .int 0, .int 1, .int (-1)]) (es := [.int 0, .int 0, .int 0, .int 1, .int (-1)]) q1 rfl (by decide : 0 < 5) (by decide : 5 < 1073741824)
    have T5 : M_law_of (eBg (mapS (spoilN r) s.2 st.2).2) [.list [.int 0, .int 0, .int 0, .int 1, .int (-1)]] (eBg (takeM (mapS (spoilN r) s.2 st.2).2 5).2) (.ok (.va (pickM [.int 0, .int 0, .int 0, .int 1, .int (-1)] (takeM (mapS (spoilN r) s.2 st.2).2 5).1))) := T5
    rw [(pick5 t2 t3).1] at T5
    refine bj_cons (sj_set 6 C (ej_lst aj_nil)) ?_
    have fe : ∀ (l : List Num) (acc : List Num) (b : Bg), l.foldl (fun (q : List Num × Bg) x => (q.1 ++ [(spoilN r q.2 x).1], (spoilN r q.2 x).2)) (acc, b) = (acc ++ (mapS (spoilN r) l b).1, (mapS (spoilN r) l b).2) := fun l => by
      induction l with
      | nil => intro acc b; simp [mapS]
      | cons x l ih =>
        intro acc b
        rw [List.foldl_cons, ih]
        show _ = (acc ++ ((spoilN r b x).1 :: (mapS (spoilN r) l (spoilN r b x).2).1), (mapS (spoilN r) l (spoilN r b x).2).2)
        rw [List.append_assoc]
        rfl
    have fe0 := fe s.2 [] st.2
    refine bj_cons (ρ1 := [.br a (eBg (mapS (spoilN r) s.2 st.2).2), .va (eRu r), .va (eShots ss), .va (eShots st.1), .va (.int s.1), .va (eNums s.2), .ow (.lst ((mapS (spoilN r) s.2 st.2).1.map eOI)), .un, .un]) (SJ.toE (sj_fold (sh := .one 7) (fun q : List Num × Bg => [.br a (eBg q.2), .va (eRu r), .va (eShots ss), .va (eShots st.1), .va (.int s.1), .va (eNums s.2), .ow (.lst (q.1.map eOI)), .un, .un]) (fun q x => (q.1 ++ [(spoilN r q.2 x).1], (spoilN r q.2 x).2)) s.2 eOI (fun i q => q.2.ok ∧ q.1.length = i) ([], st.2) C (it_seq (ej_var 5)) rfl (pg1 7 C.nd) ⟨I1, rfl⟩ fun j x q hj J => ⟨_, rfl, ?_, ?_⟩) (by rw [fe0]; rfl)) ?_
    · obtain ⟨J1, J2⟩ := J
      have hjl : j < s.2.length := (List.getElem?_eq_some_iff.mp hj).1
      obtain ⟨u1, u2, u3⟩ := takeM_ok J1 (n := 6) (by decide)
      have T6 : M_law_of (eBg q.2) [.list [.int 0, .int 0, .int 0, .int 0, .int 1, .int (-1)]] (eBg (takeM q.2 6).2) (.ok (.va (pickM [.int 0, .int 0, .int 0, .int 0, .int 1, .int (-1)] (takeM q.2 6).1))) := m_law_of (x := .list [.int 0, .int 0, .int 0, .int 0, .int 1, .int (-1)]) (es := [.int 0, .int 0, .int 0, .int 0, .int 1, .int (-1)]) J1 rfl (by decide : 0 < 6) (by decide : 6 < 1073741824)
      rw [(pick6 u2 u3).1] at T6
      refine bj_cons (sj_set 8 C (ej_callB 0 C D1 (aj_cons (EJ.frz (ej_lst (aj_cons ej_int (aj_cons ej_int (aj_cons ej_int (aj_cons ej_int (aj_cons ej_int (aj_cons (ej_neg ej_int) aj_nil)))))))) aj_nil) T6)) ?_
      have ea : ∀ x : Num, q.1.map eOI ++ [eOI (spoilN r q.2 x).1] = (q.1 ++ [(spoilN r q.2 x).1]).map eOI := fun x => by rw [List.map_append]; rfl
      cases x with
      | none => exact (bj_cons (ρ1 := [.br a (eBg (spoilN r q.2 none).2), .va (eRu r), .va (eShots ss), .va (eShots st.1), .va (.int s.1), .va (eNums s.2), .ow (.lst ((q.1 ++ [(spoilN r q.2 none).1]).map eOI)), .va (eOI none), .va (.int (more6 (takeM q.2 6).1))]) (SJ.toE (sj_append 6 (ej_if (tj_isN (ej_var 7)) (fun _ => ej_var 7) (fun z => by cases z)) (hz := by rw [List.length_map, J2, sizeLine_eq]; omega)) (by exact congrArg (fun l => [Sl.br a (eBg (spoilN r q.2 none).2), .va (eRu r), .va (eShots ss), .va (eShots st.1), .va (.int s.1), .va (eNums s.2), .ow (.lst l), .va (eOI none), .va (.int (more6 (takeM q.2 6).1))]) (ea none))) bj_done)
      | some i => exact (bj_cons (ρ1 := [.br a (eBg (spoilN r q.2 (some i)).2), .va (eRu r), .va (eShots ss), .va (eShots st.1), .va (.int s.1), .va (eNums s.2), .ow (.lst ((q.1 ++ [(spoilN r q.2 (some i)).1]).map eOI)), .va (eOI (some i)), .va (.int (more6 (takeM q.2 6).1))]) (SJ.toE (sj_append 6 (ej_if (tj_isN (ej_var 7)) (fun z => by cases z) (fun _ => ej_max2 C B.max ej_int (ej_min2 C B.min (ej_call C D2 (aj_cons (ej_var 1) aj_nil) (m_law_scale hr)) (ej_add (ej_var 7) (ej_var 8))))) (hz := by rw [List.length_map, J2, sizeLine_eq]; omega)) (by exact congrArg (fun l => [Sl.br a (eBg (spoilN r q.2 (some i)).2), .va (eRu r), .va (eShots ss), .va (eShots st.1), .va (.int s.1), .va (eNums s.2), .ow (.lst l), .va (eOI (some i)), .va (.int (more6 (takeM q.2 6).1))]) (ea (some i)))) bj_done)
    · obtain ⟨J1, J2⟩ := J
      exact ⟨(takeM_ok J1 (n := 6) (by decide)).1, by show (q.1 ++ [_]).length = _; rw [List.length_append, J2]; rfl⟩
    have ea : st.1.map eShot ++ [eShot (max 1 (s.1 + more5 (takeM (mapS (spoilN r) s.2 st.2).2 5).1), (mapS (spoilN r) s.2 st.2).1)] = (spoilS r st s).1.map eShot := by
      show _ = (st.1 ++ [_]).map eShot
      rw [List.map_append]
      rfl
    exact bj_cons (ρ1 := [.br a (eBg (spoilS r st s).2), .va (eRu r), .va (eShots ss), .va (eShots (spoilS r st s).1), .va (.int s.1), .va (eNums s.2), .va (.list ((mapS (spoilN r) s.2 st.2).1.map eOI)), .un, .un]) ((sj_set 3 C (ej_add (ej_var 3) (ej_tup (aj_cons (ej_tup (aj_cons (ej_max2 C B.max ej_int (ej_add (ej_var 4) (ej_callB 0 C D1 (aj_cons (EJ.frz (ej_lst (aj_cons ej_int (aj_cons ej_int (aj_cons ej_int (aj_cons ej_int (aj_cons (ej_neg ej_int) aj_nil))))))) aj_nil) T5))) (aj_cons (ej_tupOf B.tuple (ej_frz 6)) aj_nil))) aj_nil)) (by exact add_tt (by rw [List.length_map, I2, sizeLine_eq]; simp; omega)))).toE (by exact congrArg (fun l => [Sl.br a (eBg (spoilS r st s).2), .va (eRu r), .va (eShots ss), .va (.tuple l), .va (.int s.1), .va (eNums s.2), .va (.list ((mapS (spoilN r) s.2 st.2).1.map eOI)), .un, .un]) ea)) bj_done
  · obtain ⟨I1, I2⟩ := I
    exact ⟨(spoil_one (r := r) (s := s) I1).1, by show (st.1 ++ [_]).length = _; rw [List.length_append, I2]; rfl⟩
end
section
variable {M : Md} {B : Bl M.mg} {f : Addr} {fd : FuncData}
theorem d_law_tuples (B : Bl M.mg) (D1 : Def M "_law_number" 2 (spP M.K M.mg M_law_number)) (F : Fun M.K "_law_tuples" "_law_tuples" st_law_tuples f fd) (hm : M.mg "_law_tuples" = some (.ref f)) (hb : Binds M.K fd ["rule", "shot"] []) :
    Def M "_law_tuples" 3 (spP M.K M.mg M_law_tuples) := by
  refine def_mk F hm hb sc_law_tuples (fun ds o ⟨_, _, _, _, _, h, _⟩ => by subst h; rfl) fun fr C ds o h => ?_
  obtain ⟨r, s, hr0, ht, hn, rfl, rfl⟩ := h
  -- 0 rule, 1 shot, 2 total, 3 numbers, 4 found, 5 at, 6 number, 7 later, 8 row, 9 rest, 10 values, 11 own
  refine fj_cons (sj_asg (sh := (.tup [(.one 2), (.one 3)])) (ej_var 1) (pgT C.calm (pgsC (pg1 2 C.nd) (pgsC (pg1 3 C.nd) pgs0)))) ?_
  refine fj_cons (sj_set 4 C (ej_lst (aj_cons (ej_tup aj_nil) aj_nil))) ?_
  refine FJ.frz0 4 ?_
  let A : PD → En := fun x => [.va (eRu r), .va (eShot s), .va (.int s.1), .va (eNums s.2), .va x, .un, .un, .un, .un, .un, .un, .un]
  refine fj_cons (ρ1 := A (eVs (tuplesM r s))) ?loop (fj_ret (ej_var 4))
  refine SJ.toE (sj_fold (sh := (.tup [(.one 5), (.one 6)])) (fun found : List (List Int) => A (eVs found)) (tupStep r s.1 s.2.length) s.2.zipIdx (fun p => .tuple [.int ((p.2 : Nat) : Int), eOI p.1]) (fun i found => TupInv r s i found) [[]] C ((it_en (ej_var 3) B.enumerate)) (enD_map eOI s.2 0) (pgT C.calm (pgsC (pg1 5 C.nd) (pgsC (pg1 6 C.nd) pgs0))) (tup_start (by omega) (by omega)) (fun j p found hp I => ?_)) rfl
  obtain ⟨x, j', hx, rfl, hj⟩ : ∃ x j', s.2[j]? = some x ∧ p = (x, j') ∧ j' = j := by
    rw [List.getElem?_zipIdx] at hp
    obtain ⟨y, h1, h2⟩ := Option.map_eq_some_iff.mp hp
    exact ⟨y, 0 + j, h1, h2.symm, Nat.zero_add j⟩
  subst hj
  have hjn := (List.getElem?_eq_some_iff.mp hx).1
  refine ⟨_, rfl, ?_, tup_step (by omega) hx I⟩
  have capj := Nat.le_trans I.cap (cap_le (j := j') ht.2 hn.2)
  have capT := Nat.le_trans (tup_step (by omega) hx I).cap (cap_le (j := j' + 1) ht.2 hn.2)
  have cf : found.length * 67 ≤ 300763 ∨ j' + 1 = s.2.length := by
    by_cases c : j' + 1 = s.2.length
    · exact .inr c
    · left
      have h1 := I.cap
      unfold tupCap at h1
      have h2 : (s.1.toNat + 1) ^ min j' (s.2.length - 1) ≤ 67 ^ 2 := Nat.le_trans (Nat.pow_le_pow_left (show s.1.toNat + 1 ≤ 67 by omega) _) (Nat.pow_le_pow_right (n := 67) (by decide) (show min j' (s.2.length - 1) ≤ 2 by omega))
      omega
  let last := decide ((j' : Int) = (s.2.length : Int) - 1)
  have lt : last = true ↔ j' + 1 = s.2.length := by show decide _ = true ↔ _; rw [decide_eq_true_eq]; omega
  have le : last = decide ((j' : Int) = (s.2.length : Int) - 1) := rfl
  have hstep : tupStep r s.1 s.2.length found (x, j') = found.foldl (fun acc row => acc ++ tupRow r s.1 x last row) [] := by rw [foldl_flat]; rfl
  refine bj_cons (sj_set 7 C (ej_lst aj_nil)) ?_
  refine bj_cons (ρ1 := [.va (eRu r), .va (eShot s), .va (.int s.1), .va (eNums s.2), .va (eVs found), .va (.int (j' : Nat)), .va (eOI x), .ow (.lst ((tupStep r s.1 s.2.length found (x, j')).map eInts)), .un, .un, .un, .un]) ?inner (bj_cons (sj_set 4 C (ej_frz 7)) bj_done)
  rw [hstep]
  let c := if last then 1 else 67
  have c1 : found.length * c ≤ 300763 := by
    show found.length * (if last then 1 else 67) ≤ _
    cases hl : last with
    | true => rw [if_pos rfl]; omega
    | false =>
      rw [if_neg Bool.false_ne_true]
      rcases cf with h | h
      · exact h
      · rw [lt.mpr h] at hl; cases hl
  have rl : ∀ row, row ∈ found → (tupRow r s.1 x last row).length ≤ c ∧ (valsT (s.1 - row.sum) last).length ≤ c := fun row hr => by
    have P := (I.mem row).mp hr
    have sp := sum_pos P.pos
    have v : (valsT (s.1 - row.sum) last).length ≤ c := by
      rw [valsT_len]
      show _ ≤ (if last then 1 else 67)
      have := P.low
      split <;> omega
    exact ⟨by unfold tupRow; rw [List.length_map]; exact Nat.le_trans (List.length_filter_le _ _) v, v⟩
  refine SJ.toE (sj_fold (sh := .one 8) (fun acc : List (List Int) => [.va (eRu r), .va (eShot s), .va (.int s.1), .va (eNums s.2), .va (eVs found), .va (.int (j' : Nat)), .va (eOI x), .ow (.lst (acc.map eInts)), .un, .un, .un, .un]) (fun acc row => acc ++ tupRow r s.1 x last row) found eInts (fun i acc => acc.length ≤ i * c) [] C (it_seq (ej_var 4)) rfl (pg1 8 C.nd) (Nat.zero_le _) fun i row acc hi J => ⟨_, rfl, ?_, ?_⟩) rfl
  · have hr := List.mem_of_getElem? hi
    have P := (I.mem row).mp hr
    have sp := sum_pos P.pos
    have lo := P.low
    have hil := (List.getElem?_eq_some_iff.mp hi).1
    have capA : (i + 1) * c ≤ 300763 := Nat.le_trans (Nat.mul_le_mul_right c (by omega)) c1
    rw [Nat.add_mul, Nat.one_mul] at capA
    refine bj_cons (sj_set 9 C (ej_sub (ej_var 2) (ej_sum (ns := row) C B.sum (ej_var 8)))) ?_
    have ev : ∀ k : Bool, k = last → (if k then PyData.list [.int (s.1 - row.sum)] else .list ((List.range (s.1 - row.sum + 1).toNat).map fun k => .int (k : Nat))) = .list ((valsT (s.1 - row.sum) last).map .int) := fun k hk => by
      subst hk
      unfold valsT
      cases last with
      | true => rfl
      | false => rw [if_neg Bool.false_ne_true, if_neg Bool.false_ne_true, List.map_map]; rfl
    have tst : PyData.eqv (.int (j' : Nat)) (.int ((s.2.length : Int) - 1)) = last := by rw [eqv_int]
    refine bj_cons (sj_set 10 C ((ej_ifV (tj_eq C (ej_var 5) (ej_sub (ej_lenM s.2 eOI B.len (ej_var 3)) ej_int) (hk := tst)) (fun _ => EJ.frz (ej_lst (aj_cons (ej_var 9) aj_nil))) (fun _ => EJ.frz (ej_lstRng C B.list B.range (ej_add (ej_var 9) ej_int) (by omega)))).to (ev last rfl))) ?_
    have hrow : acc ++ tupRow r s.1 x last row = (valsT (s.1 - row.sum) last).foldl (fun acc y => if okN r s.1 x y then acc ++ [row ++ [y]] else acc) acc := by rw [foldl_filter (okN r s.1 x) (fun y => row ++ [y])]; rfl
    rw [hrow]
    refine bj_cons (ρ1 := [.va (eRu r), .va (eShot s), .va (.int s.1), .va (eNums s.2), .va (eVs found), .va (.int (j' : Nat)), .va (eOI x), .ow (.lst (((valsT (s.1 - row.sum) last).foldl (fun acc y => if okN r s.1 x y then acc ++ [row ++ [y]] else acc) acc).map eInts)), .va (eInts row), .va (.int (s.1 - row.sum)), .va (.list ((valsT (s.1 - row.sum) last).map .int)), .un]) ?deep bj_done
    refine SJ.toE (sj_fold (sh := .one 11) (fun acc : List (List Int) => [.va (eRu r), .va (eShot s), .va (.int s.1), .va (eNums s.2), .va (eVs found), .va (.int (j' : Nat)), .va (eOI x), .ow (.lst (acc.map eInts)), .va (eInts row), .va (.int (s.1 - row.sum)), .va (.list ((valsT (s.1 - row.sum) last).map .int)), .un]) (fun acc y => if okN r s.1 x y then acc ++ [row ++ [y]] else acc) (valsT (s.1 - row.sum) last) PyData.int (fun k a => a.length ≤ acc.length + k) acc C (it_seq (ej_var 10)) rfl (pg1 11 C.nd) (Nat.le_refl _) fun k y a hk K => ⟨_, rfl, ?_, ?_⟩) rfl
    · have hkl := (List.getElem?_eq_some_iff.mp hk).1
      have vl := (rl row hr).2
      have rowl := P.len
      have ea : a.map eInts ++ [.tuple (row.map .int ++ [.int y])] = (a ++ [row ++ [y]]).map eInts := by
        rw [List.map_append]
        show _ = a.map eInts ++ [.tuple ((row ++ [y]).map .int)]
        rw [List.map_append]
        rfl
      cases x with
      | none =>
        exact bj_cons (sj_ifT (WJ.tj (wj_or (k' := false) (tj_isN (ej_var 6)) fun z => by cases z)) (bj_cons (ρ1 := [.va (eRu r), .va (eShot s), .va (.int s.1), .va (eNums s.2), .va (eVs found), .va (.int (j' : Nat)), .va (eOI none), .ow (.lst ((a ++ [row ++ [y]]).map eInts)), .va (eInts row), .va (.int (s.1 - row.sum)), .va (.list ((valsT (s.1 - row.sum) last).map .int)), .un]) (SJ.to (SJ.toE (sj_append 7 (ej_add (ej_var 8) (ej_tup (aj_cons (ej_var 11) aj_nil)) (by exact add_tt (by rw [List.length_map, rowl, sizeLine_eq]; simp; omega))) (hz := by rw [List.length_map, sizeLine_eq]; omega)) (by exact congrArg (fun l => [Sl.va (eRu r), .va (eShot s), .va (.int s.1), .va (eNums s.2), .va (eVs found), .va (.int (j' : Nat)), .va (eOI none), .ow (.lst l), .va (eInts row), .va (.int (s.1 - row.sum)), .va (.list ((valsT (s.1 - row.sum) last).map .int)), .va (.int y)]) ea))) bj_nil)) bj_done
      | some i =>
        have N := m_law_number (v := y) hr0 (by omega : 0 < s.1) (by omega : s.1 ≤ 1000000)
        by_cases ce : numberM r y s.1 = i
        · rw [if_pos (show okN r s.1 (some i) y = true from decide_eq_true ce)]
          exact bj_cons (sj_ifT (WJ.tj (wj_or (tj_isN (ej_var 6)) fun _ => (wj_or1 (tj_eq C (ej_call C D1 (aj_cons (ej_var 0) (aj_cons (ej_var 11) (aj_cons (ej_var 2) aj_nil))) N) (ej_var 6) (hk := by exact (eqv_int _ _).trans (decide_eq_true ce)))))) (bj_cons (ρ1 := [.va (eRu r), .va (eShot s), .va (.int s.1), .va (eNums s.2), .va (eVs found), .va (.int (j' : Nat)), .va (eOI (some i)), .ow (.lst ((a ++ [row ++ [y]]).map eInts)), .va (eInts row), .va (.int (s.1 - row.sum)), .va (.list ((valsT (s.1 - row.sum) last).map .int)), .un]) (SJ.to (SJ.toE (sj_append 7 (ej_add (ej_var 8) (ej_tup (aj_cons (ej_var 11) aj_nil)) (by exact add_tt (by rw [List.length_map, rowl, sizeLine_eq]; simp; omega))) (hz := by rw [List.length_map, sizeLine_eq]; omega)) (by exact congrArg (fun l => [Sl.va (eRu r), .va (eShot s), .va (.int s.1), .va (eNums s.2), .va (eVs found), .va (.int (j' : Nat)), .va (eOI (some i)), .ow (.lst l), .va (eInts row), .va (.int (s.1 - row.sum)), .va (.list ((valsT (s.1 - row.sum) last).map .int)), .va (.int y)]) ea))) bj_nil)) bj_done
        · rw [if_neg (show ¬ okN r s.1 (some i) y = true from by rw [show okN r s.1 (some i) y = decide (numberM r y s.1 = i) from rfl, decide_eq_true_eq]; exact ce)]
          exact bj_cons (sj_ifF (WJ.tj (wj_or (tj_isN (ej_var 6)) fun _ => (wj_or1 (tj_eq C (ej_call C D1 (aj_cons (ej_var 0) (aj_cons (ej_var 11) (aj_cons (ej_var 2) aj_nil))) N) (ej_var 6) (hk := by exact (eqv_int _ _).trans (decide_eq_false ce)))))) bj_nil) bj_done
    · split
      · rw [List.length_append]; show a.length + 1 ≤ _; omega
      · omega
  · rw [List.length_append, Nat.add_mul, Nat.one_mul]
    have := (rl row (List.mem_of_getElem? hi)).1
    omega
theorem d_law_under (B : Bl M.mg) (F : Fun M.K "_law_under" "_law_under" st_law_under f fd) (hm : M.mg "_law_under" = some (.ref f)) (hb : Binds M.K fd ["one", "other"] []) :
    Def M "_law_under" 1 (spP M.K M.mg M_law_under) := by
  refine def_mk F hm hb sc_law_under (fun ds o ⟨_, _, _, h, _⟩ => by subst h; rfl) fun fr C ds o h => ?_
  obtain ⟨a, b, hl, rfl, rfl⟩ := h
  refine fj_ret (ej_eq C (EJ.frz (ej_lcF (own := [("first", 2), ("second", 3)]) (sh := (.tup [(.one 2), (.one 3)])) (a.zip b) (fun p => .tuple [.int p.1, .int p.2]) (fun _ => .int 1) (fun p => decide (p.2 < p.1)) C (it_zip (ej_var 0) (ej_var 1) B.zip) (zipD_map PyData.int PyData.int _ _) (blkOk_by (own := [("first", 2), ("second", 3)]) (N := nm_law_under) (sc := (defScope st_law_under)) (by decide +kernel)) (fun _ _ _ _ _ => (pgT C.calm (pgsC (pg1 2 C.nd) (pgsC (pg1 3 C.nd) pgs0)))) (by rw [List.length_zip, sizeLine_eq]; omega) fun p hp => ⟨_, rfl, ?t1, fun _ => ?e1⟩)) (EJ.frz (ej_lst aj_nil)) (hk := ones_nil _ _) (h1 := ones_sh _) (h2 := rfl)) ?_
  case t1 =>
    rintro Y ⟨s', H, A, cl, fp, rfl⟩
    exact tj_gt (ej_var 2) (ej_var 3)
  case e1 =>
    rintro Y ⟨s', H, A, cl, fp, rfl⟩
    exact ej_int
  rw [zw_any, Bool.not_not]
theorem d_law_histories (B : Bl M.mg) (D1 : Def M "_law_tuples" 3 (spP M.K M.mg M_law_tuples)) (D2 : Def M "_law_under" 1 (spP M.K M.mg M_law_under)) (F : Fun M.K "_law_histories" "_law_histories" st_law_histories f fd) (hm : M.mg "_law_histories" = some (.ref f)) (hb : Binds M.K fd ["rule", "shots"] []) :
    Def M "_law_histories" 4 (spP M.K M.mg M_law_histories) := by
  refine def_mk F hm hb sc_law_histories (fun ds o ⟨_, _, _, _, _, _, h, _⟩ => by subst h; rfl) fun fr C ds o h => ?_
  obtain ⟨r, n, ss, G, hn, ht, rfl, rfl⟩ := h
  -- 0 rule, 1 shots, 2 rows, 3 at, 4 shot, 5 votes, 6 old, 7 new
  have hm8 := G.cnt
  have B0 : RowsI n 300763 ss.length (ss.map (tuplesM r)) := by
    refine ⟨List.length_map .., fun row hr => ?_, fun row hr v hv => ?_⟩
    · obtain ⟨s, hs, rfl⟩ := List.mem_map.mp hr
      have ls := G.len s hs
      have h1 := G.wide.1
      have ts := G.tot s hs
      have := (tuples_inv (r := r) (s := s) (by omega) (by omega)).cap
      exact Nat.le_trans this (cap_le (ht s hs) (by omega))
    · obtain ⟨s, hs, rfl⟩ := List.mem_map.mp hr
      have ls := G.len s hs
      have h1 := G.wide.1
      have ts := G.tot s hs
      rw [← ls]
      exact ((tuples_mem (r := r) (by omega) (by omega)).mp hv).len
  refine fj_cons (sj_set 2 C (ej_lcM (own := [("shot", 4)]) (sh := (.one 4)) ss eShot (fun s => eVs (tuplesM r s)) C (it_seq (ej_var 1)) rfl (blkOk_by (own := [("shot", 4)]) (N := nm_law_histories) (sc := (defScope st_law_histories)) (by decide +kernel)) (fun _ _ _ _ _ => (pg1 4 C.nd)) (by rw [sizeLine_eq]; omega) (fun s hs => ⟨_, rfl, ?elt⟩))) ?_
  case elt =>
    rintro Y ⟨s', H, A, cl, fp, rfl⟩
    have := G.wide
    have := G.len s hs
    exact ej_call C.blk D1 (aj_cons (ej_var 0) (aj_cons (ej_var 4) aj_nil)) (m_law_tuples G.rule ⟨(G.tot s hs).1, ht s hs⟩ (by omega))
  let E : List (List (List Int)) → En := fun rows => [.va (eRu r), .va (eShots ss), .ow (.lst (rows.map eVs)), .un, .un, .un, .un, .un]
  have e0 : ss.map (fun s => eVs (tuplesM r s)) = (ss.map (tuplesM r)).map eVs := by rw [List.map_map]; rfl
  rw [e0]
  have turn : ∀ (rows : List (List (List Int))) (at_ ot : Nat), RowsI n 300763 ss.length rows → at_ < ss.length → ot < ss.length →
      atI (rows.map eVs) (at_ : Int) = some (eVs (rows.getD at_ [])) ∧ atI (rows.map eVs) (ot : Int) = some (eVs (rows.getD ot [])) ∧ ixN (rows.map eVs).length (at_ : Int) = some at_ ∧ (rows.getD at_ []).length ≤ 300763 ∧ (rows.getD ot []).length ≤ 300763 ∧ (∀ v ∈ rows.getD at_ [], v.length = n) ∧ ∀ v ∈ rows.getD ot [], v.length = n := fun rows at_ ot I h1 h2 => by
    have l := I.len
    have m1 := (getD_mem (l := rows) (d := []) (show at_ < rows.length by omega)).1
    have m2 := (getD_mem (l := rows) (d := []) (show ot < rows.length by omega)).1
    exact ⟨at_map (by omega), at_map (by omega), ixN_nat (by rw [List.length_map]; omega), I.cap _ m1, I.cap _ m2, I.wide _ m1, I.wide _ m2⟩
  refine fj_cons (ρ1 := E (fwdM r ss)) ?fwd (fj_cons (ρ1 := E (histsM r ss)) ?bwd (fj_ret (ej_frz 2)))
  case fwd =>
    refine SJ.toE (sj_fold (sh := .one 3) E fwdStep ((List.range (ss.length - 1)).map (· + 1)) (fun i => .int (i : Nat)) (fun _ rows => RowsI n 300763 ss.length rows) (ss.map (tuplesM r)) C (it_rng2 (i := 1) (j := (ss.length : Nat)) (aj_cons ej_int (aj_cons ((ej_lenO 2 B.len rfl rfl).to (by rw [List.length_map, List.length_map])) aj_nil)) (by omega) B.range) ?items (pg1 3 C.nd) B0 fun i at_ rows hi I => ⟨_, rfl, ?_, rows_set I⟩) rfl
    case items =>
      show rngD 1 _ = _
      rw [rngD1, List.map_map, show ((ss.length : Nat) : Int) - 1 = ((ss.length - 1 : Nat) : Int) by omega, Int.toNat_natCast]
      rfl
    have hi2 : at_ = i + 1 ∧ i < ss.length - 1 := by
      rw [List.getElem?_map] at hi
      obtain ⟨j, h1, h2⟩ := Option.map_eq_some_iff.mp hi
      have hl := (List.getElem?_eq_some_iff.mp h1).1
      rw [List.length_range] at hl
      rw [List.getElem?_range hl] at h1
      cases h1
      exact ⟨h2.symm, hl⟩
    obtain ⟨rfl, hil⟩ := hi2
    obtain ⟨t1, t2, t3, t4, t5, t6, t7⟩ := turn rows (i + 1) i I (by omega) (by omega)
    refine bj_cons (ρ1 := [.va (eRu r), .va (eShots ss), .ow (.lst ((fwdStep rows (i + 1)).map eVs)), .va (.int ((i + 1 : Nat) : Int)), .un, .un, .un, .un]) (SJ.toE (sj_setI 2 (EJ.frz (ej_lcF (own := [("votes", 5)]) (sh := (.one 5)) (rows.getD (i + 1) []) eInts eInts (fun v => (rows.getD i []).any fun o => allLe o v) C (it_seq (ej_ixO 2 (ej_var 3) rfl rfl ⟨_, _, rfl, rfl⟩ t1)) rfl (blkOk_by (own := [("votes", 5)]) (N := nm_law_histories) (sc := (defScope st_law_histories)) (by decide +kernel)) (fun _ _ _ _ _ => (pg1 5 C.nd)) (by rw [sizeLine_eq]; omega) fun v hv => ⟨_, rfl, ?t, fun _ => ?e⟩)) (ej_var 3) (hk := t3)) ?env) bj_done
    case env =>
      unfold fwdStep
      show _ = [Sl.va (eRu r), .va (eShots ss), .ow (.lst ((rows.set (i + 1) _).map eVs)), .va (.int ((i + 1 : Nat) : Int)), .un, .un, .un, .un]
      rw [List.map_set]
      rfl
    case t =>
      rintro Y ⟨s', H, A, cl, fp, rfl⟩
      refine tj_any (l := rows.getD i []) (tj_ne C.blk (EJ.frz (ej_lcF (own := [("old", 6)]) (sh := (.one 6)) (rows.getD i []) eInts (fun _ => .int 1) (fun o => allLe o v) C.blk (it_seq (ej_ixO 2 (j := (i : Nat)) ((ej_sub (ej_var 3) ej_int).to (congrArg PyData.int (by omega))) rfl rfl ⟨_, _, rfl, rfl⟩ t2)) rfl (blkOk_by (own := [("old", 6)]) (N := nm_law_histories) (by rfl)) (fun _ _ _ _ _ => (pg1 6 C.nd)) (by rw [sizeLine_eq]; omega) fun o ho => ⟨_, rfl, ?t2, fun _ => ?e2⟩)) (EJ.frz (ej_lst aj_nil)) (hk := ones_nil _ _) (h1 := ones_sh _) (h2 := rfl))
      case t2 =>
        rintro Y ⟨s'', H', A', cl', fp', rfl⟩
        exact tj_val (ej_call C.blk.blk D2 (aj_cons (ej_var 6) (aj_cons (ej_var 5) aj_nil)) (m_law_under (by rw [t7 o ho]; omega)))
      case e2 =>
        rintro Y ⟨s'', H', A', cl', fp', rfl⟩
        exact ej_int
    case e =>
      rintro Y ⟨s', H, A, cl, fp, rfl⟩
      exact ej_var 5
  case bwd =>
    have BF : RowsI n 300763 ss.length (fwdM r ss) := by
      have key : ∀ (l : List Nat) (rows : List (List (List Int))), RowsI n 300763 ss.length rows → RowsI n 300763 ss.length (l.foldl fwdStep rows) := fun l => by
        induction l with
        | nil => exact fun rows h => h
        | cons a l ih => exact fun rows h => ih _ (rows_set h)
      exact key _ _ B0
    refine SJ.toE (sj_fold (sh := .one 3) E bwdStep (downs ss.length) (fun i => .int (i : Nat)) (fun _ rows => RowsI n 300763 ss.length rows) (fwdM r ss) C (it_down (i := (ss.length : Int) - 2) (j := -1) (aj_cons ((ej_sub (ej_lenO 2 B.len rfl rfl) ej_int).to (by rw [List.length_map, BF.len])) (aj_cons (ej_neg ej_int) (aj_cons (ej_neg ej_int) aj_nil))) (by omega) B.range) ?items (pg1 3 C.nd) BF fun i at_ rows hi I => ⟨_, rfl, ?_, rows_set I⟩) rfl
    case items =>
      unfold downs downD
      rw [List.map_map, show ((ss.length : Int) - 2 - -1).toNat = ss.length - 1 by omega]
      refine List.map_congr_left fun k hk => ?_
      rw [List.mem_range] at hk
      show PyData.int ((ss.length : Int) - 2 - ((k : Nat) : Int)) = PyData.int ((ss.length - 2 - k : Nat) : Int)
      congr 1
      omega
    have hi2 : at_ + 1 < ss.length := by
      unfold downs at hi
      rw [List.getElem?_map] at hi
      obtain ⟨j, h1, h2⟩ := Option.map_eq_some_iff.mp hi
      have hl := (List.getElem?_eq_some_iff.mp h1).1
      rw [List.length_range] at hl
      omega
    obtain ⟨t1, t2, t3, t4, t5, t6, t7⟩ := turn rows at_ (at_ + 1) I (by omega) (by omega)
    refine bj_cons (ρ1 := [.va (eRu r), .va (eShots ss), .ow (.lst ((bwdStep rows at_).map eVs)), .va (.int (at_ : Int)), .un, .un, .un, .un]) (SJ.toE (sj_setI 2 (EJ.frz (ej_lcF (own := [("votes", 5)]) (sh := (.one 5)) (rows.getD at_ []) eInts eInts (fun v => (rows.getD (at_ + 1) []).any fun w => allLe v w) C (it_seq (ej_ixO 2 (ej_var 3) rfl rfl ⟨_, _, rfl, rfl⟩ t1)) rfl (blkOk_by (own := [("votes", 5)]) (N := nm_law_histories) (sc := (defScope st_law_histories)) (by decide +kernel)) (fun _ _ _ _ _ => (pg1 5 C.nd)) (by rw [sizeLine_eq]; omega) fun v hv => ⟨_, rfl, ?t, fun _ => ?e⟩)) (ej_var 3) (hk := t3)) ?env) bj_done
    case env =>
      unfold bwdStep
      show _ = [Sl.va (eRu r), .va (eShots ss), .ow (.lst ((rows.set at_ _).map eVs)), .va (.int (at_ : Int)), .un, .un, .un, .un]
      rw [List.map_set]
      rfl
    case t =>
      rintro Y ⟨s', H, A, cl, fp, rfl⟩
      refine tj_any (l := rows.getD (at_ + 1) []) (tj_ne C.blk (EJ.frz (ej_lcF (own := [("new", 7)]) (sh := (.one 7)) (rows.getD (at_ + 1) []) eInts (fun _ => .int 1) (fun w => allLe v w) C.blk (it_seq (ej_ixO 2 (j := ((at_ + 1 : Nat) : Int)) ((ej_add (ej_var 3) ej_int).to (congrArg PyData.int (by omega))) rfl rfl ⟨_, _, rfl, rfl⟩ t2)) rfl (blkOk_by (own := [("new", 7)]) (N := nm_law_histories) (by rfl)) (fun _ _ _ _ _ => (pg1 7 C.nd)) (by rw [sizeLine_eq]; omega) fun w hw => ⟨_, rfl, ?t2, fun _ => ?e2⟩)) (EJ.frz (ej_lst aj_nil)) (hk := ones_nil _ _) (h1 := ones_sh _) (h2 := rfl))
      case t2 =>
        rintro Y ⟨s'', H', A', cl', fp', rfl⟩
        exact tj_val (ej_call C.blk.blk D2 (aj_cons (ej_var 5) (aj_cons (ej_var 7) aj_nil)) (m_law_under (by rw [t6 v hv]; omega)))
      case e2 =>
        rintro Y ⟨s'', H', A', cl', fp', rfl⟩
        exact ej_int
    case e =>
      rintro Y ⟨s', H, A, cl, fp, rfl⟩
      exact ej_var 5
end
section
variable {M : Md} {B : Bl M.mg} {f : Addr} {fd : FuncData}
def M_err18 (ds : List PD) (o : PO) : Prop := ∃ (r : Ru) (n : Nat) (ss : List Shot) (k : PD), GoodS r n ss ∧ isI k 0 2 = false ∧ ds = [eRu r, eShots ss, k] ∧ o = .ok (.va (.str "count"))
def M_due18 (ds : List PD) (o : PO) : Prop := ∃ (r : Ru) (n : Nat) (ss : List Shot) (j : Nat), GoodS r n ss ∧ n ≤ 3 ∧ (∀ s ∈ ss, s.1 ≤ 40) ∧ j ≤ 2 ∧ ds = [eRu r, eShots ss, .int j] ∧ o = .ok (.va (sharpOf r n ss j))
theorem d_law_error (B : Bl M.mg) (D1 : Def M "sharper" 6 (spP M.K M.mg M_sharper)) (X1 : ExcX M.K M.mg "PollError") (X2 : ExcX M.K M.mg "InvalidCount") (S1 : SubX M.K M.mg "InvalidCount" "PollError" true) (S2 : SubX M.K M.mg "InvalidCount" "InvalidCount" true)
    (F : Fun M.K "_law_error" "_law_error" st_law_error f fd) (hm : M.mg "_law_error" = some (.ref f)) (hb : Binds M.K fd ["rule", "shots", "decimals"] []) :
    Def M "_law_error" 7 (spP M.K M.mg M_err18) := by
  refine def_mk F hm hb sc_law_error (fun ds o ⟨_, _, _, _, _, _, h, _⟩ => by subst h; rfl) fun fr C ds o h => ?_
  obtain ⟨r, n, ss, k, G, hk, rfl, rfl⟩ := h
  -- 0 rule, 1 shots, 2 decimals, 3 e
  exact fj_st (sj_tryX 3 C X1 X2 S1 (fun W' pn xe tk po => bj_one (sj_exprX (ej_callX (C.tr tk po) D1 (aj_cons (ej_var 0) (aj_cons (ej_var 1) (aj_cons (ej_var 2) aj_nil))) (m_sharperX G hk)))) (su_is (b := true) X2 X2 S2 B.isinstance (hinj := fun _ _ _ => rfl)) rfl) rfl
theorem d_law_due (B : Bl M.mg) (D1 : Def M "_law_histories" 4 (spP M.K M.mg M_law_histories)) (D2 : Def M "_law_number" 2 (spP M.K M.mg M_law_number))
    (F : Fun M.K "_law_due" "_law_due" st_law_due f fd) (hm : M.mg "_law_due" = some (.ref f)) (hb : Binds M.K fd ["rule", "shots", "decimals"] []) :
    Def M "_law_due" 5 (spP M.K M.mg M_due18) := by
  refine def_mk F hm hb sc_law_due (fun ds o ⟨_, _, _, _, _, _, _, _, h, _⟩ => by subst h; rfl) fun fr C ds o h => ?_
  obtain ⟨r, n, ss, j, G, n3, ts, hj, rfl, rfl⟩ := h
  -- 0 rule, 1 shots, 2 decimals, 3 rows, 4 found, 5 total, 6 numbers, 7 some, 8 row, 9 option, 10 votes
  have HH := m_law_histories G (by omega) fun s hs => by have := ts s hs; omega
  have any := G.hist_anyS
  have cn := G.cnt
  have wd := G.wide
  refine fj_cons (sj_set 3 C (ej_call C D1 (aj_cons (ej_var 0) (aj_cons (ej_var 1) aj_nil)) HH)) ?_
  cases ft : fitS r ss with
  | false =>
    rw [ft] at any
    have e2 : sharpOf r n ss j = .none := by unfold sharpOf; rw [ft]; rfl
    rw [e2]
    exact fj_ifT (tj_inD C (EJ.frz (ej_lst aj_nil)) (ej_var 3) (hk := (nil_in _).trans any) (h1 := rfl) (h2 := (shHis _).shaped)) rfl (rj_ret ej_non)
  | true =>
    rw [ft] at any
    have e2 : sharpOf r n ss j = eRows (sharpM r n ss j) := by unfold sharpOf; rw [ft]; rfl
    rw [e2]
    refine fj_ifF (tj_inD C (EJ.frz (ej_lst aj_nil)) (ej_var 3) (hk := (nil_in _).trans any) (h1 := rfl) (h2 := (shHis _).shaped)) rfl ?_
    have hl := G.hists.1
    let E : List (List Int) → En := fun rows => [.va (eRu r), .va (eShots ss), .va (.int (j : Nat)), .va (eHis (histsM r ss)), .ow (.lst (rows.map fun row => .list (row.map .int))), .un, .un, .un, .un, .un, .un]
    let val : Shot × List (List Int) → Nat → Int := fun p k => ((distN (p.2.map fun v => numberM (fineR r j) (v.getD k 0) p.1.1) : Nat) : Int)
    let one : Shot × List (List Int) → List Int := fun p => (List.range n).map (val p)
    have ef : (ss.zip (histsM r ss)).foldl (fun (rows : List (List Int)) p => rows ++ [one p]) [] = sharpM r n ss j := by
      rw [foldl_app one (ss.zip (histsM r ss)) []]
      show (ss.zip (histsM r ss)).map one = _
      unfold sharpM
      apply List.ext_getElem?
      intro t
      rw [List.getElem?_map, List.getElem?_map]
      by_cases ht : t < ss.length
      · have h1 : (ss.zip (histsM r ss))[t]? = some (sAt ss t, (histsM r ss).getD t []) := by
          rw [List.getElem?_zip_eq_some]
          exact ⟨(G.at ht).1, (getD_mem (l := histsM r ss) (d := []) (by omega)).2⟩
        rw [h1, List.getElem?_range ht]
        show some (List.map _ _) = some (List.map _ _)
        refine congrArg some (List.map_congr_left fun k hk => ?_)
        rw [List.mem_range] at hk
        exact fine_dist G ft hj ht hk
      · rw [List.getElem?_eq_none (by rw [List.length_zip, hl]; omega), List.getElem?_eq_none (by rw [List.length_range]; omega)]
        rfl
    refine fj_cons (ρ1 := E []) (SJ.toE (sj_set 4 C (ej_lst aj_nil)) rfl) ?_
    refine fj_cons (ρ1 := E (sharpM r n ss j)) ?loop (fj_ret (ej_frz 4))
    refine SJ.toE (sj_fold (sh := (.tup [(.tup [(.one 5), (.one 6)]), (.one 7)])) E (fun (rows : List (List Int)) p => rows ++ [one p]) (ss.zip (histsM r ss)) (fun p => .tuple [eShot p.1, eVs p.2]) (fun i rows => rows.length = i) [] C (it_zip (ej_var 1) (ej_var 3) B.zip) (zipD_map eShot eVs ss (histsM r ss)) (pgT C.calm (pgsC (pgT C.calm (pgsC (pg1 5 C.nd) (pgsC (pg1 6 C.nd) pgs0))) (pgsC (pg1 7 C.nd) pgs0))) rfl fun i p rows hi J => ⟨_, rfl, ?_, ?_⟩) (by rw [ef])
    · have il := (List.getElem?_eq_some_iff.mp hi).1
      rw [List.length_zip, hl] at il
      obtain ⟨z1, z2⟩ := List.getElem?_zip_eq_some.mp hi
      have ht : i < ss.length := by omega
      have es : p.1 = sAt ss i := by
        have := (G.at ht).1
        rw [z1] at this
        exact Option.some.inj this
      have eb : p.2 = (histsM r ss).getD i [] := by
        rw [List.getD_eq_getElem?_getD, z2]; rfl
      have htt := (G.at ht).2
      rw [← es] at htt
      have tb := ts p.1 (List.mem_of_getElem? z1)
      have ll : p.2.length ≤ 4000 := by
        have h1 := G.hist_len z1
        rw [← eb] at h1
        have h2 : (p.1.1.toNat + 1) ^ (n - 1) ≤ 41 ^ 2 := Nat.le_trans (Nat.pow_le_pow_left (by omega) _) (Nat.pow_le_pow_right (by decide) (by omega))
        omega
      have lv : ∀ v ∈ p.2, v.length = n := fun v hv => by
        rw [eb] at hv
        obtain ⟨_, _, _, l⟩ := G.hist_row ht hv
        exact l
      have ea : ∀ (l : List (List Int)) (x : List Int), (l ++ [x]).map (fun row : List Int => PyData.list (row.map .int)) = l.map (fun row : List Int => PyData.list (row.map .int)) ++ [.list (x.map .int)] := fun l x => by rw [List.map_append]; rfl
      let I : List Int → En := fun row => [.va (eRu r), .va (eShots ss), .va (.int (j : Nat)), .va (eHis (histsM r ss)), .ow (.lst (rows.map fun row => .list (row.map .int))), .va (.int p.1.1), .va (eNums p.1.2), .va (eVs p.2), .ow (.lst (row.map .int)), .un, .un]
      have ei : (List.range n).foldl (fun (row : List Int) (k : Nat) => row ++ [val p k]) [] = one p := foldl_app (val p) (List.range n) []
      have ln : (p.1.2.map eOI).length = n := by rw [List.length_map]; exact htt.2.1
      refine bj_cons (ρ1 := I []) (SJ.toE (sj_set 8 C (ej_lst aj_nil)) rfl) ?_
      refine bj_cons (ρ1 := I (one p)) ?inner ?_
      case inner =>
        refine SJ.toE (sj_fold (sh := .one 9) I (fun (row : List Int) (k : Nat) => row ++ [val p k]) (List.range n) (fun k => PyData.int ((k : Nat) : Int)) (fun i row => row.length = i) [] C (it_rng1 (aj_cons ((ej_len B.len (ej_var 6)).to (congrArg PyData.int (congrArg (fun x : Nat => (x : Int)) ln))) aj_nil) (by omega) B.range) (by rw [rngD0, Int.toNat_natCast]) (pg1 9 C.nd) rfl fun i2 k row hi2 J2 => ⟨_, rfl, ?_, ?_⟩) (by rw [ei])
        · have kl := (List.getElem?_eq_some_iff.mp hi2).1
          rw [List.length_range] at kl
          rw [List.getElem?_range kl] at hi2
          cases hi2
          have e4 : PyData.list (p.2.map fun v => PyData.int (numberM (fineR r j) (v.getD i2 0) p.1.1)) = .list ((p.2.map fun v => numberM (fineR r j) (v.getD i2 0) p.1.1).map .int) := by rw [List.map_map]; rfl
          have ea2 : (row ++ [val p i2]).map PyData.int = row.map PyData.int ++ [.int (val p i2)] := by rw [List.map_append]; rfl
          refine bj_cons (ρ1 := [.va (eRu r), .va (eShots ss), .va (.int (j : Nat)), .va (eHis (histsM r ss)), .ow (.lst (rows.map fun row => .list (row.map .int))), .va (.int p.1.1), .va (eNums p.1.2), .va (eVs p.2), .ow (.lst ((row ++ [val p i2]).map .int)), .va (.int (i2 : Nat)), .un]) (SJ.toE (sj_append 8 (ej_lenSet (ns := p.2.map fun v => numberM (fineR r j) (v.getD i2 0) p.1.1) C B.len B.set ((EJ.frz (ej_lcM (own := [("votes", 10)]) (sh := (.one 10)) p.2 eInts (fun v => .int (numberM (fineR r j) (v.getD i2 0) p.1.1)) C (it_seq (ej_var 7)) rfl (blkOk_by (own := [("votes", 10)]) (N := nm_law_due) (sc := (defScope st_law_due)) (by decide +kernel)) (fun _ _ _ _ _ => (pg1 10 C.nd)) (by rw [sizeLine_eq]; omega) fun v hv => ⟨_, rfl, ?elt⟩)).to e4) (by rw [List.length_map]; exact ll)) (hz := by have : row.length = i2 := J2; rw [List.length_map, sizeLine_eq]; omega)) (by rw [ea2]; rfl)) bj_done
          rintro Y ⟨s', H, A, cl, fp, rfl⟩
          have av : atI (v.map PyData.int) (i2 : Int) = some (.int (v.getD i2 0)) := at_map (by rw [lv v hv]; exact kl)
          exact ej_call C.blk D2 (aj_cons (ej_tup (aj_cons (ej_var 2) (aj_cons (ej_at (ej_var 0) ej_int) aj_nil))) (aj_cons (ej_at (ej_var 10) (ej_var 9) (hj := av)) (aj_cons (ej_var 5) aj_nil))) (m_law_number (r := fineR r j) hj (by omega) (by omega))
        · show (row ++ [_]).length = _
          rw [List.length_append, show row.length = i2 from J2]
          rfl
      exact bj_cons (ρ1 := [.va (eRu r), .va (eShots ss), .va (.int (j : Nat)), .va (eHis (histsM r ss)), .ow (.lst ((rows ++ [one p]).map fun row => .list (row.map .int))), .va (.int p.1.1), .va (eNums p.1.2), .va (eVs p.2), .va (.list ((one p).map .int)), .un, .un]) (SJ.toE (sj_append 4 (ej_frz 8) (hz := by have : rows.length = i := J; rw [List.length_map, sizeLine_eq]; omega)) (by rw [ea]; rfl)) bj_done
    · show (rows ++ [_]).length = _
      rw [List.length_append, show rows.length = i from J]
      rfl
theorem good18 : GoodS ⟨0, true⟩ 2 [(300, [some 33, some 67]), (310, [some 35, some 65])] := good_by (Nat.zero_le 2) (by decide +kernel) rfl
theorem sharp18 : sharpOf ⟨0, true⟩ 2 [(300, [some 33, some 67]), (310, [some 35, some 65])] 1 = eRows [[3, 3], [4, 4]] := by
  unfold sharpOf
  rw [show fitS ⟨0, true⟩ [(300, [some 33, some 67]), (310, [some 35, some 65])] = true by decide +kernel, if_pos rfl, show sharpM ⟨0, true⟩ 2 [(300, [some 33, some 67]), (310, [some 35, some 65])] 1 = [[3, 3], [4, 4]] by decide +kernel]
theorem atLast {ss : List Shot} (h : 1 ≤ ss.length) : atI (ss.map eShot) (-1) = some (eShot (sAt ss (ss.length - 1))) := by
  unfold atI ixN
  rw [if_neg (by decide), if_pos (by rw [List.length_map]; omega)]
  show (some _ : Option Nat).bind _ = _
  rw [Option.bind_some, List.length_map, List.getElem?_map, show (-1 + ((ss.length : Nat) : Int)).toNat = ss.length - 1 by omega, (getD_mem (l := ss) (d := (0, [])) (show ss.length - 1 < ss.length by omega)).2]
  rfl
theorem ones_rows (m n : Nat) : PyData.list (List.replicate m [PyData.list (List.replicate n [PyData.int 1]).flatten]).flatten = eRows (List.replicate m (List.replicate n 1)) := by
  rw [List.flatten_replicate_singleton, List.flatten_replicate_singleton]
  unfold eRows
  rw [List.map_replicate, List.map_replicate]
theorem sharp_ones {r : Ru} {n : Nat} {ss : List Shot} (G : GoodS r n ss) (ft : fitS r ss = true) (full : ∀ s ∈ ss, ∀ x ∈ s.2, x ≠ none) : sharpM r n ss r.dec = List.replicate ss.length (List.replicate n 1) := by
  unfold sharpM
  apply List.ext_getElem?
  intro t
  rw [List.getElem?_map, List.getElem?_replicate]
  by_cases ht : t < ss.length
  · rw [List.getElem?_range ht, if_pos ht]
    refine congrArg some ?_
    apply List.ext_getElem?
    intro k
    rw [List.getElem?_map, List.getElem?_replicate]
    by_cases hk : k < n
    · rw [List.getElem?_range hk, if_pos hk]
      exact congrArg some (congrArg (fun x : Nat => (x : Int)) (fine_same G ft full ht hk))
    · rw [List.getElem?_eq_none (by rw [List.length_range]; omega), if_neg hk]; rfl
  · rw [List.getElem?_eq_none (by rw [List.length_range]; omega), if_neg ht]; rfl
theorem sharp_pos {r : Ru} {n : Nat} {ss : List Shot} (G : GoodS r n ss) (ft : fitS r ss = true) (d : Nat) : ∀ row ∈ sharpM r n ss d, row.length = n ∧ ∀ x ∈ row, ¬ x < 1 := fun row hr => by
  unfold sharpM at hr
  obtain ⟨t, ht, rfl⟩ := List.mem_map.mp hr
  rw [List.mem_range] at ht
  refine ⟨by rw [List.length_map, List.length_range], fun x hx => ?_⟩
  obtain ⟨k, hk, rfl⟩ := List.mem_map.mp hx
  rw [List.mem_range] at hk
  have := fine_pos (d := d) G ft ht hk
  omega
theorem d_law (B : Bl M.mg) (D1 : Def M "_law_bag" 1 (spP M.K M.mg M_law_bag)) (D2 : Def M "_law_take" 1 (spB M.K M.mg M_law_take)) (D3 : Def M "_law_of" 2 (spB M.K M.mg M_law_of)) (D4 : Def M "_law_poll" 3 (spB M.K M.mg M_law_poll)) (D5 : Def M "_law_cropped" 2 (spB M.K M.mg M_law_cropped)) (D6 : Def M "_law_spoiled" 3 (spB M.K M.mg M_law_spoiled))
    (D7 : Def M "sharper" 6 (spP M.K M.mg M_sharper)) (D8 : Def M "_law_due" 5 (spP M.K M.mg M_due18)) (D9 : Def M "_law_error" 7 (spP M.K M.mg M_err18))
    (F : Fun M.K "law" "law" st_law f fd) :
    FnOk M.P M.w M.K M.mg M.base (L2.CX M.P M.w) 8 f fd ["script"] (spP M.K M.mg M_law) := by
  refine fn_mk F sc_law (fun ds o ⟨_, _, h, _⟩ => by subst h; rfl) fun fr C ds o h => ?_
  obtain ⟨ns, hl, rfl, rfl⟩ := h
  -- 0 script, 1 k, 2 bag, 3 rule, 4 shots, 5 decimals, 6 rows, 7 odd, 8 row, 9 many
  have nl : (ns.map PyData.int).length = ns.length := List.length_map ..
  refine fj_cons (sj_each (sh := .one 1) (List.range (min (ns.length : Int) 5 + 2).toNat) (fun k => PyData.int (k : Nat)) C (it_rng1 (j := min (ns.length : Int) 5 + 2) (aj_cons (ej_add (ej_min2 C B.min (nl ▸ ej_len B.len (ej_var 0)) ej_int) ej_int) aj_nil) (by omega) B.range) rngD0 (pg1 1 C.nd) (fun k hk => ⟨_, rfl, ?_⟩)) ?_
  · rw [List.mem_range] at hk
    obtain ⟨r, b1, b2, d1, d2, hr, k2, T1, T2, er⟩ := rule01_ex (bagM_ok ns k)
    obtain ⟨t3, b3, k3, a3, c3, T3⟩ := take_ex 2 k2
    obtain ⟨n, hn⟩ : ∃ n : Nat, 2 + t3 = n := ⟨(2 + t3).toNat, by omega⟩
    obtain ⟨rows, s4, b4, k4, G4, _, _, _, tt, _, T4⟩ := pollG_ex (r := r) (n := n) 3 4 k3 hr (by omega)
    have tt : ∀ s ∈ s4, s.1 ≤ 30 := fun s hs => by have := tt s hs; omega
    obtain ⟨q, b5, k5, hq, T5⟩ := of2_ex k4 2 50 (P := fun q => 0 < q ∧ q ≤ 1000) (by decide) (by decide)
    obtain ⟨s6, b6, k6, cr, G6, T6⟩ := cropG_ex q k5 G4 hq
    have tt6 := cr.tots tt
    obtain ⟨t7, b7, k7, a7, c7, T7⟩ := take_ex 4 k6
    obtain ⟨s8, b8, k8, sp, G8, t8, T8⟩ := spoilG_ex k7 G6 (B := 30) tt6 (by decide)
    obtain ⟨ss, b9, k9, G9, tt9, e9⟩ : ∃ (ss : List Shot) (b9 : Bg), b9.ok ∧ GoodS r n ss ∧ (∀ s ∈ ss, s.1 ≤ 31) ∧ ((t7 = 0 ∧ ss = s8 ∧ b9 = b8) ∨ (t7 ≠ 0 ∧ ss = s6 ∧ b9 = b7)) := by
      by_cases c : t7 = 0
      · exact ⟨s8, b8, k8, G8, fun s hs => by have := t8 s hs; omega, .inl ⟨c, rfl, rfl⟩⟩
      · exact ⟨s6, b7, k7, G6, fun s hs => by have := tt6 s hs; omega, .inr ⟨c, rfl, rfl⟩⟩
    obtain ⟨t10, b10, k10, a10, c10, T10⟩ := take_ex 3 k9
    obtain ⟨n2, hn2⟩ : ∃ n2 : Nat, 2 + t10 = n2 := ⟨(2 + t10).toNat, by omega⟩
    obtain ⟨rows2, s11, b11, k11, G11, H11, _, _, _, full, T11⟩ := pollG_ex (r := ⟨0, true⟩) (n := n2) 4 5000 k10 (Nat.zero_le 2) (by omega)
    have F11 : fitS ⟨0, true⟩ s11 = true := (fitS_hsl G11).mpr ⟨rows2, H11⟩
    have cn9 := G9.cnt
    have cn11 := G11.cnt
    have w11 := G11.wide
    let Z : Bg → PD → List Shot → Sl → En := fun b ru s w => [.va (.list (ns.map .int)), .va (.int k), .ow (eBg b), .va ru, .va (eShots s), .un, w, .un, .un, .un]
    refine bj_cons (sj_set 2 C (ej_call C D1 (aj_cons (ej_var 0) (aj_cons (ej_var 1) aj_nil)) (m_law_bag (by omega)))) ?_
    refine bj_cons (ρ1 := [.va (.list (ns.map .int)), .va (.int k), .ow (eBg b2), .va (eRu r), .un, .un, .un, .un, .un, .un]) (SJ.toE (sj_set 3 C ((ej_tup (aj_cons (ej_callB 2 C D3 (aj_cons (EJ.frz (ej_lst (aj_cons ej_int (aj_cons ej_int (aj_cons ej_int aj_nil))))) aj_nil) T1) (aj_cons (ej_callB 2 C D3 (aj_cons (EJ.frz (ej_lst (aj_cons ej_str (aj_cons ej_str aj_nil)))) aj_nil) T2) aj_nil))).to er)) rfl) ?_
    rw [← hn] at T4
    refine bj_cons (ρ1 := Z b4 (eRu r) s4 .un) (SJ.toE (sj_set 4 C (ej_at (ej_callB 2 C D4 (aj_cons (ej_var 3) (aj_cons (ej_add ej_int (ej_callB 2 C D2 (aj_cons ej_int aj_nil) T3)) (aj_cons ej_int (aj_cons ej_int aj_nil)))) T4) ej_int)) rfl) ?_
    refine bj_cons (ρ1 := Z b6 (eRu r) s6 .un) (SJ.toE (sj_set 4 C (ej_callB 2 C D5 (aj_cons (ej_var 4) (aj_cons (ej_callB 2 C D3 (aj_cons (EJ.frz (ej_lst (aj_cons ej_int (aj_cons ej_int aj_nil)))) aj_nil) T5) aj_nil)) T6)) rfl) ?_
    refine bj_cons (ρ1 := Z b9 (eRu r) ss .un) ?spoil ?_
    case spoil =>
      rcases e9 with ⟨c, rfl, rfl⟩ | ⟨c, rfl, rfl⟩
      · have e0 : PyData.eqv (.int t7) (.int 0) = true := by rw [eqv_int]; exact decide_eq_true c
        exact SJ.toE (sj_set 4 C (ej_if (k := true) (tj_eq C (ej_callB 2 C D2 (aj_cons ej_int aj_nil) T7) ej_int (hk := e0)) (fun _ => ej_callB 2 C D6 (aj_cons (ej_var 3) (aj_cons (ej_var 4) aj_nil)) T8) (fun z => by cases z))) rfl
      · have e0 : PyData.eqv (.int t7) (.int 0) = false := by rw [eqv_int]; exact decide_eq_false c
        exact SJ.toE (sj_set 4 C (ej_if (k := false) (tj_eq C (ej_callB 2 C D2 (aj_cons ej_int aj_nil) T7) ej_int (hk := e0)) (fun z => by cases z) (fun _ => ej_var 4))) rfl
    refine bj_cons (ρ1 := Z b9 (eRu r) ss .un) (sj_if (tj_le (ej_at (ej_at (ej_var 4) (ej_neg ej_int) (hj := atLast cn9.1)) ej_int) ej_int) (fun h => bj_one ?small) (fun h => bj_nil)) ?_
    case small =>
      refine SJ.toE (sj_each (sh := .one 5) (List.range 3) (fun d => PyData.int ((d : Nat) : Int)) C (it_rng1 (aj_cons ej_int aj_nil) (by decide) B.range) rngD0 (pg1 5 C.nd) (fun d hd => ⟨_, rfl, ?_⟩)) rfl
      rw [List.mem_range] at hd
      obtain ⟨l1, l2⟩ := sharp_sh (r := r) (n := n) (ss := ss) d
      exact bj_cons (sj_ifF (k := !true) (tj_ne C (ej_call C D7 (aj_cons (ej_var 3) (aj_cons (ej_var 4) (aj_cons (ej_var 5) aj_nil))) (m_sharper G9 (show d ≤ 2 by omega))) (ej_call C D8 (aj_cons (ej_var 3) (aj_cons (ej_var 4) (aj_cons (ej_var 5) aj_nil))) ⟨r, n, ss, d, G9, by omega, fun s hs => by have := tt9 s hs; omega, by omega, rfl, rfl⟩) (hk := eqv_self l1) (h1 := l2) (h2 := l2)) bj_nil) bj_done
    rw [← hn2] at T11
    have sO : ∀ d, sharpOf ⟨0, true⟩ n2 s11 d = eRows (sharpM ⟨0, true⟩ n2 s11 d) := fun d => by unfold sharpOf; rw [F11]; rfl
    refine bj_cons (ρ1 := Z b11 (eRu r) s11 .un) (SJ.toE (sj_set 4 C (ej_at (ej_callB 2 C D4 (aj_cons (ej_tup (aj_cons ej_int (aj_cons ej_str aj_nil))) (aj_cons (ej_add ej_int (ej_callB 2 C D2 (aj_cons ej_int aj_nil) T10)) (aj_cons ej_int (aj_cons ej_int aj_nil)))) T11) ej_int)) rfl) ?_
    refine bj_cons (ρ1 := Z b11 (eRu r) s11 (.ow (.lst [eRows (sharpM ⟨0, true⟩ n2 s11 0), eRows (sharpM ⟨0, true⟩ n2 s11 1), eRows (sharpM ⟨0, true⟩ n2 s11 2)]))) (SJ.toE (sj_lcM (own := [("decimals", 5)]) (sh := (.one 5)) 6 (List.range 3) (fun d => PyData.int ((d : Nat) : Int)) (fun d => eRows (sharpM ⟨0, true⟩ n2 s11 d)) C (it_rng1 (aj_cons ej_int aj_nil) (by decide) B.range) rngD0 (blkOk_by (own := [("decimals", 5)]) (N := nm_law) (sc := (defScope st_law)) (by decide +kernel)) (fun _ _ _ _ _ => (pg1 5 C.nd)) (by rw [List.length_range, sizeLine_eq]; decide) (fun d hd => ⟨_, rfl, ?elt⟩) (sw_true rfl rfl rfl (by decide +kernel))) rfl) ?_
    case elt =>
      rw [List.mem_range] at hd
      rintro Y ⟨s', H, A, cl, fp, rfl⟩
      have MS := m_sharper G11 (show d ≤ 2 by omega)
      rw [sO] at MS
      exact ej_call C.blk D7 (aj_cons (ej_tup (aj_cons ej_int (aj_cons ej_str aj_nil))) (aj_cons (ej_var 4) (aj_cons (ej_var 5) aj_nil))) MS
    refine BJ.frz0 6 ?_
    show BJ _ _ _ (Z b11 (eRu r) s11 (.va (.list [eRows (sharpM ⟨0, true⟩ n2 s11 0), eRows (sharpM ⟨0, true⟩ n2 s11 1), eRows (sharpM ⟨0, true⟩ n2 s11 2)]))) _
    have l0 := (G11.at (i := 0) (by omega)).2.2.1
    have a0 : atI (s11.map eShot) 0 = some (eShot (sAt s11 0)) := at_map (i := 0) (by omega)
    have ln0 : ((sAt s11 0).2.map eOI).length = n2 := by rw [List.length_map]; exact l0
    have s0 : sharpM ⟨0, true⟩ n2 s11 0 = List.replicate s11.length (List.replicate n2 1) := sharp_ones G11 F11 full
    refine bj_cons (sj_ifF (k := !true) (tj_ne (y := eRows (List.replicate s11.length (List.replicate n2 1))) C (ej_at (ej_var 6) ej_int) ((EJ.frz (ej_repL (ej_lst (aj_cons (EJ.frz (ej_repL (ej_lst (aj_cons ej_int aj_nil)) ((ej_len B.len (ej_at (ej_at (ej_var 4) ej_int (hj := a0)) ej_int)).to (congrArg PyData.int (congrArg (fun x : Nat => (x : Int)) ln0))) (by omega) (by simp) rfl)) aj_nil)) (ej_lenM s11 eShot B.len (ej_var 4)) (by omega) (by simp) rfl)).to (by rw [Int.toNat_natCast, Int.toNat_natCast]; exact ones_rows _ _)) (hk := by rw [s0]; exact eqv_self (rows_noB _)) (h1 := (rows_sh _).shaped) (h2 := (rows_sh _).shaped)) bj_nil) ?_
    let two : List (List Int) := sharpM ⟨0, true⟩ n2 s11 1 ++ sharpM ⟨0, true⟩ n2 s11 2
    have hp : ∀ row ∈ two, row.length = n2 ∧ ∀ x ∈ row, ¬ x < 1 := fun row hr => by
      rcases List.mem_append.mp hr with hr | hr
      · exact sharp_pos G11 F11 1 row hr
      · exact sharp_pos G11 F11 2 row hr
    have l12 : ∀ d, (sharpM ⟨0, true⟩ n2 s11 d).length = s11.length := fun d => by unfold sharpM; rw [List.length_map, List.length_range]
    have lt : two.length ≤ 16 := by show (sharpM ⟨0, true⟩ n2 s11 1 ++ sharpM ⟨0, true⟩ n2 s11 2).length ≤ _; rw [List.length_append, l12, l12]; omega
    have e12 : (sharpM ⟨0, true⟩ n2 s11 1).map (fun row : List Int => PyData.list (row.map .int)) ++ (sharpM ⟨0, true⟩ n2 s11 2).map (fun row : List Int => PyData.list (row.map .int)) = two.map fun row : List Int => PyData.list (row.map .int) := by rw [← List.map_append]
    refine bj_cons (sj_ifF (k := !true) (tj_ne C (EJ.frz (ej_lcF (own := [("row", 8)]) (sh := (.one 8)) two (fun row : List Int => PyData.list (row.map .int)) (fun _ => .int 1) (fun _ => false) C (it_seq (EJ.frz (ej_add (ej_at (ej_var 6) ej_int) (ej_at (ej_var 6) ej_int) (by exact add_ll (by rw [List.length_map, List.length_map, l12, l12, sizeLine_eq]; omega))))) e12 (blkOk_by (own := [("row", 8)]) (N := nm_law) (sc := (defScope st_law)) (by decide +kernel)) (fun _ _ _ _ _ => (pg1 8 C.nd)) (by rw [sizeLine_eq]; omega) fun row hr => ⟨_, rfl, ?t, fun z => by cases z⟩)) (EJ.frz (ej_lst aj_nil)) (hk := by rw [ones_nil, List.any_eq_false.mpr (fun _ _ => Bool.false_ne_true)]; rfl) (h1 := ones_sh _) (h2 := rfl)) bj_nil) ?_
    case t =>
      obtain ⟨lr, pr⟩ := hp row hr
      have fe : row.filter (fun x => decide (x < 1)) = [] := by
        rw [List.filter_eq_nil_iff]
        intro x hx
        simpa using pr x hx
      rintro Y ⟨s', H, A, cl, fp, rfl⟩
      exact tj_ne (k := true) C.blk ((EJ.frz (ej_lcF (own := [("many", 9)]) (sh := (.one 9)) row PyData.int PyData.int (fun x => decide (x < 1)) C.blk (it_seq (ej_var 8)) rfl (blkOk_by (own := [("many", 9)]) (N := nm_law) (by rfl)) (fun _ _ _ _ _ => (pg1 9 C.nd)) (by rw [sizeLine_eq]; omega) fun x hx => ⟨_, rfl, by
        rintro Y ⟨s', H, A, cl, fp, rfl⟩
        exact tj_lt (ej_var 9) ej_int, fun _ => by
        rintro Y ⟨s', H, A, cl, fp, rfl⟩
        exact ej_var 9⟩)).to (show PyData.list _ = .list [] by rw [fe]; rfl)) (EJ.frz (ej_lst aj_nil))
    have hv : ∀ v ∈ [PyData.none, .int 3, .int (-1), .bool true, .str "0"], isI v 0 2 = false := fun v hv => by
      rcases List.mem_cons.mp hv with rfl | hv
      · rfl
      rcases List.mem_cons.mp hv with rfl | hv
      · decide
      rcases List.mem_cons.mp hv with rfl | hv
      · decide
      rcases List.mem_cons.mp hv with rfl | hv
      · rfl
      rcases List.mem_cons.mp hv with rfl | hv
      · rfl
      cases hv
    refine bj_cons (sj_each (sh := .one 7) [PyData.none, .int 3, .int (-1), .bool true, .str "0"] id C (it_seq (EJ.frz (ej_lst (aj_cons ej_non (aj_cons ej_int (aj_cons (ej_neg ej_int) (aj_cons ej_bl (aj_cons ej_str aj_nil)))))))) rfl (pg1 7 C.nd) (fun v hv' => ⟨_, rfl, ?_⟩)) bj_done
    exact bj_cons (sj_ifF (k := !true) (tj_ne C (ej_call C D9 (aj_cons (ej_tup (aj_cons ej_int (aj_cons ej_str aj_nil))) (aj_cons (ej_var 4) (aj_cons (ej_var 7) aj_nil))) ⟨⟨0, true⟩, n2, s11, v, G11, hv v hv', rfl, rfl⟩) ej_str (hk := by decide +kernel) (h1 := by decide +kernel) (h2 := by decide +kernel)) bj_nil) bj_done
  · have MS := m_sharper (j := 1) good18 (by decide)
    rw [sharp18] at MS
    exact fj_ret (ej_eq C (ej_call C D7 (aj_cons (ej_tup (aj_cons ej_int (aj_cons ej_str aj_nil))) (aj_cons (ej_tup (aj_cons (ej_tup (aj_cons ej_int (aj_cons (ej_tup (aj_cons ej_int (aj_cons ej_int aj_nil))) aj_nil))) (aj_cons (ej_tup (aj_cons ej_int (aj_cons (ej_tup (aj_cons ej_int (aj_cons ej_int aj_nil))) aj_nil))) aj_nil))) (aj_cons ej_int aj_nil))) MS) (EJ.frz (ej_lst (aj_cons (EJ.frz (ej_lst (aj_cons ej_int (aj_cons ej_int aj_nil)))) (aj_cons (EJ.frz (ej_lst (aj_cons ej_int (aj_cons ej_int aj_nil)))) aj_nil)))) (hk := eqv_self (rows_noB [[3, 3], [4, 4]])) (h1 := (rows_sh [[3, 3], [4, 4]]).shaped) (h2 := (rows_sh [[3, 3], [4, 4]]).shaped))
end

section
variable {M : Md}
theorem top_ok (B : Bl M.mg) (E_InvalidCount : ExcC M.K M.mg "InvalidCount") (E_InvalidRule : ExcC M.K M.mg "InvalidRule") (E_InvalidShots : ExcC M.K M.mg "InvalidShots") (X_InvalidCount : ExcX M.K M.mg "InvalidCount") (X_PollError : ExcX M.K M.mg "PollError") (S_InvalidCount_InvalidCount : SubX M.K M.mg "InvalidCount" "InvalidCount" true) (S_InvalidCount_PollError : SubX M.K M.mg "InvalidCount" "PollError" true) (G_MOST : GC M "MOST" (.int 1000000)) (G_SHOTS : GC M "SHOTS" (.int 8)) (G_HALVES : GC M "HALVES" (.tuple [.str "up", .str "down"]))
    {f_law_bag : Addr} {fd_law_bag : FuncData} (F_law_bag : Fun M.K "_law_bag" "_law_bag" st_law_bag f_law_bag fd_law_bag) (m_law_bag : M.mg "_law_bag" = some (.ref f_law_bag)) (b_law_bag : Binds M.K fd_law_bag ["script", "k"] [])
    {f_law_take : Addr} {fd_law_take : FuncData} (F_law_take : Fun M.K "_law_take" "_law_take" st_law_take f_law_take fd_law_take) (m_law_take : M.mg "_law_take" = some (.ref f_law_take)) (b_law_take : Binds M.K fd_law_take ["bag", "count"] [])
    {f_law_of : Addr} {fd_law_of : FuncData} (F_law_of : Fun M.K "_law_of" "_law_of" st_law_of f_law_of fd_law_of) (m_law_of : M.mg "_law_of" = some (.ref f_law_of)) (b_law_of : Binds M.K fd_law_of ["bag", "some"] [])
    {f_law_scale : Addr} {fd_law_scale : FuncData} (F_law_scale : Fun M.K "_law_scale" "_law_scale" st_law_scale f_law_scale fd_law_scale) (m_law_scale : M.mg "_law_scale" = some (.ref f_law_scale)) (b_law_scale : Binds M.K fd_law_scale ["rule"] [])
    {f_law_number : Addr} {fd_law_number : FuncData} (F_law_number : Fun M.K "_law_number" "_law_number" st_law_number f_law_number fd_law_number) (m_law_number : M.mg "_law_number" = some (.ref f_law_number)) (b_law_number : Binds M.K fd_law_number ["rule", "votes", "total"] [])
    {f_law_poll : Addr} {fd_law_poll : FuncData} (F_law_poll : Fun M.K "_law_poll" "_law_poll" st_law_poll f_law_poll fd_law_poll) (m_law_poll : M.mg "_law_poll" = some (.ref f_law_poll)) (b_law_poll : Binds M.K fd_law_poll ["bag", "rule", "options", "most", "wide"] [])
    {f_law_cropped : Addr} {fd_law_cropped : FuncData} (F_law_cropped : Fun M.K "_law_cropped" "_law_cropped" st_law_cropped f_law_cropped fd_law_cropped) (m_law_cropped : M.mg "_law_cropped" = some (.ref f_law_cropped)) (b_law_cropped : Binds M.K fd_law_cropped ["bag", "shots", "often"] [])
    {f_law_spoiled : Addr} {fd_law_spoiled : FuncData} (F_law_spoiled : Fun M.K "_law_spoiled" "_law_spoiled" st_law_spoiled f_law_spoiled fd_law_spoiled) (m_law_spoiled : M.mg "_law_spoiled" = some (.ref f_law_spoiled)) (b_law_spoiled : Binds M.K fd_law_spoiled ["bag", "rule", "shots"] [])
    {f_is_integer : Addr} {fd_is_integer : FuncData} (F_is_integer : Fun M.K "is_integer" "is_integer" st_is_integer f_is_integer fd_is_integer) (m_is_integer : M.mg "is_integer" = some (.ref f_is_integer)) (b_is_integer : Binds M.K fd_is_integer ["value", "low", "high"] [])
    {f_is_rule : Addr} {fd_is_rule : FuncData} (F_is_rule : Fun M.K "is_rule" "is_rule" st_is_rule f_is_rule fd_is_rule) (m_is_rule : M.mg "is_rule" = some (.ref f_is_rule)) (b_is_rule : Binds M.K fd_is_rule ["value"] [])
    {f_require_rule : Addr} {fd_require_rule : FuncData} (F_require_rule : Fun M.K "require_rule" "require_rule" st_require_rule f_require_rule fd_require_rule) (m_require_rule : M.mg "require_rule" = some (.ref f_require_rule)) (b_require_rule : Binds M.K fd_require_rule ["rule"] [])
    {f_scale_of : Addr} {fd_scale_of : FuncData} (F_scale_of : Fun M.K "scale_of" "scale_of" st_scale_of f_scale_of fd_scale_of) (m_scale_of : M.mg "scale_of" = some (.ref f_scale_of)) (b_scale_of : Binds M.K fd_scale_of ["rule"] [])
    {f_are_numbers : Addr} {fd_are_numbers : FuncData} (F_are_numbers : Fun M.K "are_numbers" "are_numbers" st_are_numbers f_are_numbers fd_are_numbers) (m_are_numbers : M.mg "are_numbers" = some (.ref f_are_numbers)) (b_are_numbers : Binds M.K fd_are_numbers ["rule", "value"] [])
    {f_is_shot : Addr} {fd_is_shot : FuncData} (F_is_shot : Fun M.K "is_shot" "is_shot" st_is_shot f_is_shot fd_is_shot) (m_is_shot : M.mg "is_shot" = some (.ref f_is_shot)) (b_is_shot : Binds M.K fd_is_shot ["rule", "value"] [])
    {f_good_shots : Addr} {fd_good_shots : FuncData} (F_good_shots : Fun M.K "good_shots" "good_shots" st_good_shots f_good_shots fd_good_shots) (m_good_shots : M.mg "good_shots" = some (.ref f_good_shots)) (b_good_shots : Binds M.K fd_good_shots ["rule", "value"] [])
    {f_require_shots : Addr} {fd_require_shots : FuncData} (F_require_shots : Fun M.K "require_shots" "require_shots" st_require_shots f_require_shots fd_require_shots) (m_require_shots : M.mg "require_shots" = some (.ref f_require_shots)) (b_require_shots : Binds M.K fd_require_shots ["rule", "shots"] [])
    {f_totals_of : Addr} {fd_totals_of : FuncData} (F_totals_of : Fun M.K "totals_of" "totals_of" st_totals_of f_totals_of fd_totals_of) (m_totals_of : M.mg "totals_of" = some (.ref f_totals_of)) (b_totals_of : Binds M.K fd_totals_of ["shots"] [])
    {f_range_for : Addr} {fd_range_for : FuncData} (F_range_for : Fun M.K "range_for" "range_for" st_range_for f_range_for fd_range_for) (m_range_for : M.mg "range_for" = some (.ref f_range_for)) (b_range_for : Binds M.K fd_range_for ["rule", "total", "number"] [])
    {f_own_range : Addr} {fd_own_range : FuncData} (F_own_range : Fun M.K "own_range" "own_range" st_own_range f_own_range fd_own_range) (m_own_range : M.mg "own_range" = some (.ref f_own_range)) (b_own_range : Binds M.K fd_own_range ["rule", "total", "number"] [])
    {f_ranges_of : Addr} {fd_ranges_of : FuncData} (F_ranges_of : Fun M.K "ranges_of" "ranges_of" st_ranges_of f_ranges_of fd_ranges_of) (m_ranges_of : M.mg "ranges_of" = some (.ref f_ranges_of)) (b_ranges_of : Binds M.K fd_ranges_of ["rule", "shots"] [])
    {f_staircases : Addr} {fd_staircases : FuncData} (F_staircases : Fun M.K "staircases" "staircases" st_staircases f_staircases fd_staircases) (m_staircases : M.mg "staircases" = some (.ref f_staircases)) (b_staircases : Binds M.K fd_staircases ["ranges"] [])
    {f_fits : Addr} {fd_fits : FuncData} (F_fits : Fun M.K "fits" "fits" st_fits f_fits fd_fits) (m_fits : M.mg "fits" = some (.ref f_fits)) (b_fits : Binds M.K fd_fits ["totals", "ranges"] [])
    {f_narrowed : Addr} {fd_narrowed : FuncData} (F_narrowed : Fun M.K "narrowed" "narrowed" st_narrowed f_narrowed fd_narrowed) (m_narrowed : M.mg "narrowed" = some (.ref f_narrowed)) (b_narrowed : Binds M.K fd_narrowed ["ranges", "index", "option", "low", "high"] [])
    {f_smallest : Addr} {fd_smallest : FuncData} (F_smallest : Fun M.K "smallest" "smallest" st_smallest f_smallest fd_smallest) (m_smallest : M.mg "smallest" = some (.ref f_smallest)) (b_smallest : Binds M.K fd_smallest ["totals", "ranges", "index", "option"] [])
    {f_largest : Addr} {fd_largest : FuncData} (F_largest : Fun M.K "largest" "largest" st_largest f_largest fd_largest) (m_largest : M.mg "largest" = some (.ref f_largest)) (b_largest : Binds M.K fd_largest ["totals", "ranges", "index", "option"] [])
    {f_bounds_of : Addr} {fd_bounds_of : FuncData} (F_bounds_of : Fun M.K "bounds_of" "bounds_of" st_bounds_of f_bounds_of fd_bounds_of) (m_bounds_of : M.mg "bounds_of" = some (.ref f_bounds_of)) (b_bounds_of : Binds M.K fd_bounds_of ["rule", "shots"] [])
    {f_shown : Addr} {fd_shown : FuncData} (F_shown : Fun M.K "shown" "shown" st_shown f_shown fd_shown) (m_shown : M.mg "shown" = some (.ref f_shown)) (b_shown : Binds M.K fd_shown ["rule", "votes", "total"] [])
    {f_numbers_in : Addr} {fd_numbers_in : FuncData} (F_numbers_in : Fun M.K "numbers_in" "numbers_in" st_numbers_in f_numbers_in fd_numbers_in) (m_numbers_in : M.mg "numbers_in" = some (.ref f_numbers_in)) (b_numbers_in : Binds M.K fd_numbers_in ["rule", "total", "pair"] [])
    {f_sharper : Addr} {fd_sharper : FuncData} (F_sharper : Fun M.K "sharper" "sharper" st_sharper f_sharper fd_sharper) (m_sharper : M.mg "sharper" = some (.ref f_sharper)) (b_sharper : Binds M.K fd_sharper ["rule", "shots", "decimals"] [])
    {f_law_tuples : Addr} {fd_law_tuples : FuncData} (F_law_tuples : Fun M.K "_law_tuples" "_law_tuples" st_law_tuples f_law_tuples fd_law_tuples) (m_law_tuples : M.mg "_law_tuples" = some (.ref f_law_tuples)) (b_law_tuples : Binds M.K fd_law_tuples ["rule", "shot"] [])
    {f_law_under : Addr} {fd_law_under : FuncData} (F_law_under : Fun M.K "_law_under" "_law_under" st_law_under f_law_under fd_law_under) (m_law_under : M.mg "_law_under" = some (.ref f_law_under)) (b_law_under : Binds M.K fd_law_under ["one", "other"] [])
    {f_law_histories : Addr} {fd_law_histories : FuncData} (F_law_histories : Fun M.K "_law_histories" "_law_histories" st_law_histories f_law_histories fd_law_histories) (m_law_histories : M.mg "_law_histories" = some (.ref f_law_histories)) (b_law_histories : Binds M.K fd_law_histories ["rule", "shots"] [])
    {f_law_due : Addr} {fd_law_due : FuncData} (F_law_due : Fun M.K "_law_due" "_law_due" st_law_due f_law_due fd_law_due) (m_law_due : M.mg "_law_due" = some (.ref f_law_due)) (b_law_due : Binds M.K fd_law_due ["rule", "shots", "decimals"] [])
    {f_law_error : Addr} {fd_law_error : FuncData} (F_law_error : Fun M.K "_law_error" "_law_error" st_law_error f_law_error fd_law_error) (m_law_error : M.mg "_law_error" = some (.ref f_law_error)) (b_law_error : Binds M.K fd_law_error ["rule", "shots", "decimals"] [])
    {f : Addr} {fd : FuncData} (F : Fun M.K "law" "law" st_law f fd) : FnOk M.P M.w M.K M.mg M.base (L2.CX M.P M.w) 8 f fd ["script"] (spP M.K M.mg M_law) := by
  have D_law_bag := by have := @d_law_bag M; apply this <;> assumption
  have D_law_take := by have := @d_law_take M; apply this <;> assumption
  have D_law_of := by have := @d_law_of M; apply this <;> assumption
  have D_law_scale := by have := @d_law_scale M; apply this <;> assumption
  have D_law_number := by have := @d_law_number M; apply this <;> assumption
  have D_law_poll := by have := @d_law_poll M; apply this <;> assumption
  have D_law_cropped := by have := @d_law_cropped M; apply this <;> assumption
  have D_law_spoiled := by have := @d_law_spoiled M; apply this <;> assumption
  have D_is_integer := by have := @d_is_integer M; apply this <;> assumption
  have D_is_rule := by have := @d_is_rule M; apply this <;> assumption
  have D_require_rule := by have := @d_require_rule M; apply this <;> assumption
  have D_scale_of := by have := @d_scale_of M; apply this <;> assumption
  have D_are_numbers := by have := @d_are_numbers M; apply this <;> assumption
  have D_is_shot := by have := @d_is_shot M; apply this <;> assumption
  have D_good_shots := by have := @d_good_shots M; apply this <;> assumption
  have D_require_shots := by have := @d_require_shots M; apply this <;> assumption
  have D_totals_of := by have := @d_totals_of M; apply this <;> assumption
  have D_range_for := by have := @d_range_for M; apply this <;> assumption
  have D_own_range := by have := @d_own_range M; apply this <;> assumption
  have D_ranges_of := by have := @d_ranges_of M; apply this <;> assumption
  have D_staircases := by have := @d_staircases M; apply this <;> assumption
  have D_fits := by have := @d_fits M; apply this <;> assumption
  have D_narrowed := by have := @d_narrowed M; apply this <;> assumption
  have D_smallest := by have := @d_smallest M; apply this <;> assumption
  have D_largest := by have := @d_largest M; apply this <;> assumption
  have D_bounds_of := by have := @d_bounds_of M; apply this <;> assumption
  have D_shown := by have := @d_shown M; apply this <;> assumption
  have D_numbers_in := by have := @d_numbers_in M; apply this <;> assumption
  have D_sharper := by have := @d_sharper M; apply this <;> assumption
  have D_law_tuples := by have := @d_law_tuples M; apply this <;> assumption
  have D_law_under := by have := @d_law_under M; apply this <;> assumption
  have D_law_histories := by have := @d_law_histories M; apply this <;> assumption
  have D_law_due := by have := @d_law_due M; apply this <;> assumption
  have D_law_error := by have := @d_law_error M; apply this <;> assumption
  apply d_law <;> assumption
end
theorem all_mk {l : PySem.W.OpenLaw} {w : World} {K : PySem.W.Frag} {h : Heap} {mg : Str → Option Value} {fa : Addr} {lv : List (Str × PySem.W.WData)} (X : K.In h) (G : h.Ns mainGlobals mg) (hfa : mg "law" = some (.ref fa)) (loose : PySem.W.LooseAre lv mg h)
    {f0 : Addr} {od0 an0 : Option Addr} {sl0 : Array (Option Value)} {oc0 kV0 dc0 pm0 cd0 ct0 : Value}
    (a0 : PySem.W.nsIn K mainGlobals "_law_bag" = some (some (.ref f0))) (l0 : K.lookup f0 = some ⟨oc0, od0, .func (PySem.W.fnOf "_law_bag" "_law_bag" (defArgs st_law_bag) (defBody st_law_bag) (defScope st_law_bag) .none kV0 dc0 pm0 an0 cd0 ct0), sl0⟩) (c0 : PySem.W.codeIn K cd0 "_law_bag" = true) (k0 : PySem.W.keepIn K (.ref f0) = true)
    {f1 : Addr} {od1 an1 : Option Addr} {sl1 : Array (Option Value)} {oc1 kV1 dc1 pm1 cd1 ct1 : Value}
    (a1 : PySem.W.nsIn K mainGlobals "_law_take" = some (some (.ref f1))) (l1 : K.lookup f1 = some ⟨oc1, od1, .func (PySem.W.fnOf "_law_take" "_law_take" (defArgs st_law_take) (defBody st_law_take) (defScope st_law_take) .none kV1 dc1 pm1 an1 cd1 ct1), sl1⟩) (c1 : PySem.W.codeIn K cd1 "_law_take" = true) (k1 : PySem.W.keepIn K (.ref f1) = true)
    {f2 : Addr} {od2 an2 : Option Addr} {sl2 : Array (Option Value)} {oc2 kV2 dc2 pm2 cd2 ct2 : Value}
    (a2 : PySem.W.nsIn K mainGlobals "_law_of" = some (some (.ref f2))) (l2 : K.lookup f2 = some ⟨oc2, od2, .func (PySem.W.fnOf "_law_of" "_law_of" (defArgs st_law_of) (defBody st_law_of) (defScope st_law_of) .none kV2 dc2 pm2 an2 cd2 ct2), sl2⟩) (c2 : PySem.W.codeIn K cd2 "_law_of" = true) (k2 : PySem.W.keepIn K (.ref f2) = true)
    {f3 : Addr} {od3 an3 : Option Addr} {sl3 : Array (Option Value)} {oc3 kV3 dc3 pm3 cd3 ct3 : Value}
    (a3 : PySem.W.nsIn K mainGlobals "_law_scale" = some (some (.ref f3))) (l3 : K.lookup f3 = some ⟨oc3, od3, .func (PySem.W.fnOf "_law_scale" "_law_scale" (defArgs st_law_scale) (defBody st_law_scale) (defScope st_law_scale) .none kV3 dc3 pm3 an3 cd3 ct3), sl3⟩) (c3 : PySem.W.codeIn K cd3 "_law_scale" = true) (k3 : PySem.W.keepIn K (.ref f3) = true)
    {f4 : Addr} {od4 an4 : Option Addr} {sl4 : Array (Option Value)} {oc4 kV4 dc4 pm4 cd4 ct4 : Value}
    (a4 : PySem.W.nsIn K mainGlobals "_law_number" = some (some (.ref f4))) (l4 : K.lookup f4 = some ⟨oc4, od4, .func (PySem.W.fnOf "_law_number" "_law_number" (defArgs st_law_number) (defBody st_law_number) (defScope st_law_number) .none kV4 dc4 pm4 an4 cd4 ct4), sl4⟩) (c4 : PySem.W.codeIn K cd4 "_law_number" = true) (k4 : PySem.W.keepIn K (.ref f4) = true)
    {f5 : Addr} {od5 an5 : Option Addr} {sl5 : Array (Option Value)} {oc5 kV5 dc5 pm5 cd5 ct5 : Value}
    (a5 : PySem.W.nsIn K mainGlobals "_law_poll" = some (some (.ref f5))) (l5 : K.lookup f5 = some ⟨oc5, od5, .func (PySem.W.fnOf "_law_poll" "_law_poll" (defArgs st_law_poll) (defBody st_law_poll) (defScope st_law_poll) .none kV5 dc5 pm5 an5 cd5 ct5), sl5⟩) (c5 : PySem.W.codeIn K cd5 "_law_poll" = true) (k5 : PySem.W.keepIn K (.ref f5) = true)
    {f6 : Addr} {od6 an6 : Option Addr} {sl6 : Array (Option Value)} {oc6 kV6 dc6 pm6 cd6 ct6 : Value}
    (a6 : PySem.W.nsIn K mainGlobals "_law_cropped" = some (some (.ref f6))) (l6 : K.lookup f6 = some ⟨oc6, od6, .func (PySem.W.fnOf "_law_cropped" "_law_cropped" (defArgs st_law_cropped) (defBody st_law_cropped) (defScope st_law_cropped) .none kV6 dc6 pm6 an6 cd6 ct6), sl6⟩) (c6 : PySem.W.codeIn K cd6 "_law_cropped" = true) (k6 : PySem.W.keepIn K (.ref f6) = true)
    {f7 : Addr} {od7 an7 : Option Addr} {sl7 : Array (Option Value)} {oc7 kV7 dc7 pm7 cd7 ct7 : Value}
    (a7 : PySem.W.nsIn K mainGlobals "_law_spoiled" = some (some (.ref f7))) (l7 : K.lookup f7 = some ⟨oc7, od7, .func (PySem.W.fnOf "_law_spoiled" "_law_spoiled" (defArgs st_law_spoiled) (defBody st_law_spoiled) (defScope st_law_spoiled) .none kV7 dc7 pm7 an7 cd7 ct7), sl7⟩) (c7 : PySem.W.codeIn K cd7 "_law_spoiled" = true) (k7 : PySem.W.keepIn K (.ref f7) = true)
    {f8 : Addr} {od8 an8 : Option Addr} {sl8 : Array (Option Value)} {oc8 kV8 dc8 pm8 cd8 ct8 : Value}
    (a8 : PySem.W.nsIn K mainGlobals "is_integer" = some (some (.ref f8))) (l8 : K.lookup f8 = some ⟨oc8, od8, .func (PySem.W.fnOf "is_integer" "is_integer" (defArgs st_is_integer) (defBody st_is_integer) (defScope st_is_integer) .none kV8 dc8 pm8 an8 cd8 ct8), sl8⟩) (c8 : PySem.W.codeIn K cd8 "is_integer" = true) (k8 : PySem.W.keepIn K (.ref f8) = true)
    {f9 : Addr} {od9 an9 : Option Addr} {sl9 : Array (Option Value)} {oc9 kV9 dc9 pm9 cd9 ct9 : Value}
    (a9 : PySem.W.nsIn K mainGlobals "is_rule" = some (some (.ref f9))) (l9 : K.lookup f9 = some ⟨oc9, od9, .func (PySem.W.fnOf "is_rule" "is_rule" (defArgs st_is_rule) (defBody st_is_rule) (defScope st_is_rule) .none kV9 dc9 pm9 an9 cd9 ct9), sl9⟩) (c9 : PySem.W.codeIn K cd9 "is_rule" = true) (k9 : PySem.W.keepIn K (.ref f9) = true)
    {f10 : Addr} {od10 an10 : Option Addr} {sl10 : Array (Option Value)} {oc10 kV10 dc10 pm10 cd10 ct10 : Value}
    (a10 : PySem.W.nsIn K mainGlobals "require_rule" = some (some (.ref f10))) (l10 : K.lookup f10 = some ⟨oc10, od10, .func (PySem.W.fnOf "require_rule" "require_rule" (defArgs st_require_rule) (defBody st_require_rule) (defScope st_require_rule) .none kV10 dc10 pm10 an10 cd10 ct10), sl10⟩) (c10 : PySem.W.codeIn K cd10 "require_rule" = true) (k10 : PySem.W.keepIn K (.ref f10) = true)
    {f11 : Addr} {od11 an11 : Option Addr} {sl11 : Array (Option Value)} {oc11 kV11 dc11 pm11 cd11 ct11 : Value}
    (a11 : PySem.W.nsIn K mainGlobals "scale_of" = some (some (.ref f11))) (l11 : K.lookup f11 = some ⟨oc11, od11, .func (PySem.W.fnOf "scale_of" "scale_of" (defArgs st_scale_of) (defBody st_scale_of) (defScope st_scale_of) .none kV11 dc11 pm11 an11 cd11 ct11), sl11⟩) (c11 : PySem.W.codeIn K cd11 "scale_of" = true) (k11 : PySem.W.keepIn K (.ref f11) = true)
    {f12 : Addr} {od12 an12 : Option Addr} {sl12 : Array (Option Value)} {oc12 kV12 dc12 pm12 cd12 ct12 : Value}
    (a12 : PySem.W.nsIn K mainGlobals "are_numbers" = some (some (.ref f12))) (l12 : K.lookup f12 = some ⟨oc12, od12, .func (PySem.W.fnOf "are_numbers" "are_numbers" (defArgs st_are_numbers) (defBody st_are_numbers) (defScope st_are_numbers) .none kV12 dc12 pm12 an12 cd12 ct12), sl12⟩) (c12 : PySem.W.codeIn K cd12 "are_numbers" = true) (k12 : PySem.W.keepIn K (.ref f12) = true)
    {f13 : Addr} {od13 an13 : Option Addr} {sl13 : Array (Option Value)} {oc13 kV13 dc13 pm13 cd13 ct13 : Value}
    (a13 : PySem.W.nsIn K mainGlobals "is_shot" = some (some (.ref f13))) (l13 : K.lookup f13 = some ⟨oc13, od13, .func (PySem.W.fnOf "is_shot" "is_shot" (defArgs st_is_shot) (defBody st_is_shot) (defScope st_is_shot) .none kV13 dc13 pm13 an13 cd13 ct13), sl13⟩) (c13 : PySem.W.codeIn K cd13 "is_shot" = true) (k13 : PySem.W.keepIn K (.ref f13) = true)
    {f14 : Addr} {od14 an14 : Option Addr} {sl14 : Array (Option Value)} {oc14 kV14 dc14 pm14 cd14 ct14 : Value}
    (a14 : PySem.W.nsIn K mainGlobals "good_shots" = some (some (.ref f14))) (l14 : K.lookup f14 = some ⟨oc14, od14, .func (PySem.W.fnOf "good_shots" "good_shots" (defArgs st_good_shots) (defBody st_good_shots) (defScope st_good_shots) .none kV14 dc14 pm14 an14 cd14 ct14), sl14⟩) (c14 : PySem.W.codeIn K cd14 "good_shots" = true) (k14 : PySem.W.keepIn K (.ref f14) = true)
    {f15 : Addr} {od15 an15 : Option Addr} {sl15 : Array (Option Value)} {oc15 kV15 dc15 pm15 cd15 ct15 : Value}
    (a15 : PySem.W.nsIn K mainGlobals "require_shots" = some (some (.ref f15))) (l15 : K.lookup f15 = some ⟨oc15, od15, .func (PySem.W.fnOf "require_shots" "require_shots" (defArgs st_require_shots) (defBody st_require_shots) (defScope st_require_shots) .none kV15 dc15 pm15 an15 cd15 ct15), sl15⟩) (c15 : PySem.W.codeIn K cd15 "require_shots" = true) (k15 : PySem.W.keepIn K (.ref f15) = true)
    {f16 : Addr} {od16 an16 : Option Addr} {sl16 : Array (Option Value)} {oc16 kV16 dc16 pm16 cd16 ct16 : Value}
    (a16 : PySem.W.nsIn K mainGlobals "totals_of" = some (some (.ref f16))) (l16 : K.lookup f16 = some ⟨oc16, od16, .func (PySem.W.fnOf "totals_of" "totals_of" (defArgs st_totals_of) (defBody st_totals_of) (defScope st_totals_of) .none kV16 dc16 pm16 an16 cd16 ct16), sl16⟩) (c16 : PySem.W.codeIn K cd16 "totals_of" = true) (k16 : PySem.W.keepIn K (.ref f16) = true)
    {f17 : Addr} {od17 an17 : Option Addr} {sl17 : Array (Option Value)} {oc17 kV17 dc17 pm17 cd17 ct17 : Value}
    (a17 : PySem.W.nsIn K mainGlobals "range_for" = some (some (.ref f17))) (l17 : K.lookup f17 = some ⟨oc17, od17, .func (PySem.W.fnOf "range_for" "range_for" (defArgs st_range_for) (defBody st_range_for) (defScope st_range_for) .none kV17 dc17 pm17 an17 cd17 ct17), sl17⟩) (c17 : PySem.W.codeIn K cd17 "range_for" = true) (k17 : PySem.W.keepIn K (.ref f17) = true)
    {f18 : Addr} {od18 an18 : Option Addr} {sl18 : Array (Option Value)} {oc18 kV18 dc18 pm18 cd18 ct18 : Value}
    (a18 : PySem.W.nsIn K mainGlobals "own_range" = some (some (.ref f18))) (l18 : K.lookup f18 = some ⟨oc18, od18, .func (PySem.W.fnOf "own_range" "own_range" (defArgs st_own_range) (defBody st_own_range) (defScope st_own_range) .none kV18 dc18 pm18 an18 cd18 ct18), sl18⟩) (c18 : PySem.W.codeIn K cd18 "own_range" = true) (k18 : PySem.W.keepIn K (.ref f18) = true)
    {f19 : Addr} {od19 an19 : Option Addr} {sl19 : Array (Option Value)} {oc19 kV19 dc19 pm19 cd19 ct19 : Value}
    (a19 : PySem.W.nsIn K mainGlobals "ranges_of" = some (some (.ref f19))) (l19 : K.lookup f19 = some ⟨oc19, od19, .func (PySem.W.fnOf "ranges_of" "ranges_of" (defArgs st_ranges_of) (defBody st_ranges_of) (defScope st_ranges_of) .none kV19 dc19 pm19 an19 cd19 ct19), sl19⟩) (c19 : PySem.W.codeIn K cd19 "ranges_of" = true) (k19 : PySem.W.keepIn K (.ref f19) = true)
    {f20 : Addr} {od20 an20 : Option Addr} {sl20 : Array (Option Value)} {oc20 kV20 dc20 pm20 cd20 ct20 : Value}
    (a20 : PySem.W.nsIn K mainGlobals "staircases" = some (some (.ref f20))) (l20 : K.lookup f20 = some ⟨oc20, od20, .func (PySem.W.fnOf "staircases" "staircases" (defArgs st_staircases) (defBody st_staircases) (defScope st_staircases) .none kV20 dc20 pm20 an20 cd20 ct20), sl20⟩) (c20 : PySem.W.codeIn K cd20 "staircases" = true) (k20 : PySem.W.keepIn K (.ref f20) = true)
    {f21 : Addr} {od21 an21 : Option Addr} {sl21 : Array (Option Value)} {oc21 kV21 dc21 pm21 cd21 ct21 : Value}
    (a21 : PySem.W.nsIn K mainGlobals "fits" = some (some (.ref f21))) (l21 : K.lookup f21 = some ⟨oc21, od21, .func (PySem.W.fnOf "fits" "fits" (defArgs st_fits) (defBody st_fits) (defScope st_fits) .none kV21 dc21 pm21 an21 cd21 ct21), sl21⟩) (c21 : PySem.W.codeIn K cd21 "fits" = true) (k21 : PySem.W.keepIn K (.ref f21) = true)
    {f22 : Addr} {od22 an22 : Option Addr} {sl22 : Array (Option Value)} {oc22 kV22 dc22 pm22 cd22 ct22 : Value}
    (a22 : PySem.W.nsIn K mainGlobals "narrowed" = some (some (.ref f22))) (l22 : K.lookup f22 = some ⟨oc22, od22, .func (PySem.W.fnOf "narrowed" "narrowed" (defArgs st_narrowed) (defBody st_narrowed) (defScope st_narrowed) .none kV22 dc22 pm22 an22 cd22 ct22), sl22⟩) (c22 : PySem.W.codeIn K cd22 "narrowed" = true) (k22 : PySem.W.keepIn K (.ref f22) = true)
    {f23 : Addr} {od23 an23 : Option Addr} {sl23 : Array (Option Value)} {oc23 kV23 dc23 pm23 cd23 ct23 : Value}
    (a23 : PySem.W.nsIn K mainGlobals "smallest" = some (some (.ref f23))) (l23 : K.lookup f23 = some ⟨oc23, od23, .func (PySem.W.fnOf "smallest" "smallest" (defArgs st_smallest) (defBody st_smallest) (defScope st_smallest) .none kV23 dc23 pm23 an23 cd23 ct23), sl23⟩) (c23 : PySem.W.codeIn K cd23 "smallest" = true) (k23 : PySem.W.keepIn K (.ref f23) = true)
    {f24 : Addr} {od24 an24 : Option Addr} {sl24 : Array (Option Value)} {oc24 kV24 dc24 pm24 cd24 ct24 : Value}
    (a24 : PySem.W.nsIn K mainGlobals "largest" = some (some (.ref f24))) (l24 : K.lookup f24 = some ⟨oc24, od24, .func (PySem.W.fnOf "largest" "largest" (defArgs st_largest) (defBody st_largest) (defScope st_largest) .none kV24 dc24 pm24 an24 cd24 ct24), sl24⟩) (c24 : PySem.W.codeIn K cd24 "largest" = true) (k24 : PySem.W.keepIn K (.ref f24) = true)
    {f25 : Addr} {od25 an25 : Option Addr} {sl25 : Array (Option Value)} {oc25 kV25 dc25 pm25 cd25 ct25 : Value}
    (a25 : PySem.W.nsIn K mainGlobals "bounds_of" = some (some (.ref f25))) (l25 : K.lookup f25 = some ⟨oc25, od25, .func (PySem.W.fnOf "bounds_of" "bounds_of" (defArgs st_bounds_of) (defBody st_bounds_of) (defScope st_bounds_of) .none kV25 dc25 pm25 an25 cd25 ct25), sl25⟩) (c25 : PySem.W.codeIn K cd25 "bounds_of" = true) (k25 : PySem.W.keepIn K (.ref f25) = true)
    {f26 : Addr} {od26 an26 : Option Addr} {sl26 : Array (Option Value)} {oc26 kV26 dc26 pm26 cd26 ct26 : Value}
    (a26 : PySem.W.nsIn K mainGlobals "shown" = some (some (.ref f26))) (l26 : K.lookup f26 = some ⟨oc26, od26, .func (PySem.W.fnOf "shown" "shown" (defArgs st_shown) (defBody st_shown) (defScope st_shown) .none kV26 dc26 pm26 an26 cd26 ct26), sl26⟩) (c26 : PySem.W.codeIn K cd26 "shown" = true) (k26 : PySem.W.keepIn K (.ref f26) = true)
    {f27 : Addr} {od27 an27 : Option Addr} {sl27 : Array (Option Value)} {oc27 kV27 dc27 pm27 cd27 ct27 : Value}
    (a27 : PySem.W.nsIn K mainGlobals "numbers_in" = some (some (.ref f27))) (l27 : K.lookup f27 = some ⟨oc27, od27, .func (PySem.W.fnOf "numbers_in" "numbers_in" (defArgs st_numbers_in) (defBody st_numbers_in) (defScope st_numbers_in) .none kV27 dc27 pm27 an27 cd27 ct27), sl27⟩) (c27 : PySem.W.codeIn K cd27 "numbers_in" = true) (k27 : PySem.W.keepIn K (.ref f27) = true)
    {f28 : Addr} {od28 an28 : Option Addr} {sl28 : Array (Option Value)} {oc28 kV28 dc28 pm28 cd28 ct28 : Value}
    (a28 : PySem.W.nsIn K mainGlobals "sharper" = some (some (.ref f28))) (l28 : K.lookup f28 = some ⟨oc28, od28, .func (PySem.W.fnOf "sharper" "sharper" (defArgs st_sharper) (defBody st_sharper) (defScope st_sharper) .none kV28 dc28 pm28 an28 cd28 ct28), sl28⟩) (c28 : PySem.W.codeIn K cd28 "sharper" = true) (k28 : PySem.W.keepIn K (.ref f28) = true)
    {f29 : Addr} {od29 an29 : Option Addr} {sl29 : Array (Option Value)} {oc29 kV29 dc29 pm29 cd29 ct29 : Value}
    (a29 : PySem.W.nsIn K mainGlobals "_law_tuples" = some (some (.ref f29))) (l29 : K.lookup f29 = some ⟨oc29, od29, .func (PySem.W.fnOf "_law_tuples" "_law_tuples" (defArgs st_law_tuples) (defBody st_law_tuples) (defScope st_law_tuples) .none kV29 dc29 pm29 an29 cd29 ct29), sl29⟩) (c29 : PySem.W.codeIn K cd29 "_law_tuples" = true) (k29 : PySem.W.keepIn K (.ref f29) = true)
    {f30 : Addr} {od30 an30 : Option Addr} {sl30 : Array (Option Value)} {oc30 kV30 dc30 pm30 cd30 ct30 : Value}
    (a30 : PySem.W.nsIn K mainGlobals "_law_under" = some (some (.ref f30))) (l30 : K.lookup f30 = some ⟨oc30, od30, .func (PySem.W.fnOf "_law_under" "_law_under" (defArgs st_law_under) (defBody st_law_under) (defScope st_law_under) .none kV30 dc30 pm30 an30 cd30 ct30), sl30⟩) (c30 : PySem.W.codeIn K cd30 "_law_under" = true) (k30 : PySem.W.keepIn K (.ref f30) = true)
    {f31 : Addr} {od31 an31 : Option Addr} {sl31 : Array (Option Value)} {oc31 kV31 dc31 pm31 cd31 ct31 : Value}
    (a31 : PySem.W.nsIn K mainGlobals "_law_histories" = some (some (.ref f31))) (l31 : K.lookup f31 = some ⟨oc31, od31, .func (PySem.W.fnOf "_law_histories" "_law_histories" (defArgs st_law_histories) (defBody st_law_histories) (defScope st_law_histories) .none kV31 dc31 pm31 an31 cd31 ct31), sl31⟩) (c31 : PySem.W.codeIn K cd31 "_law_histories" = true) (k31 : PySem.W.keepIn K (.ref f31) = true)
    {f32 : Addr} {od32 an32 : Option Addr} {sl32 : Array (Option Value)} {oc32 kV32 dc32 pm32 cd32 ct32 : Value}
    (a32 : PySem.W.nsIn K mainGlobals "_law_due" = some (some (.ref f32))) (l32 : K.lookup f32 = some ⟨oc32, od32, .func (PySem.W.fnOf "_law_due" "_law_due" (defArgs st_law_due) (defBody st_law_due) (defScope st_law_due) .none kV32 dc32 pm32 an32 cd32 ct32), sl32⟩) (c32 : PySem.W.codeIn K cd32 "_law_due" = true) (k32 : PySem.W.keepIn K (.ref f32) = true)
    {f33 : Addr} {od33 an33 : Option Addr} {sl33 : Array (Option Value)} {oc33 kV33 dc33 pm33 cd33 ct33 : Value}
    (a33 : PySem.W.nsIn K mainGlobals "_law_error" = some (some (.ref f33))) (l33 : K.lookup f33 = some ⟨oc33, od33, .func (PySem.W.fnOf "_law_error" "_law_error" (defArgs st_law_error) (defBody st_law_error) (defScope st_law_error) .none kV33 dc33 pm33 an33 cd33 ct33), sl33⟩) (c33 : PySem.W.codeIn K cd33 "_law_error" = true) (k33 : PySem.W.keepIn K (.ref f33) = true)
    {f34 : Addr} {od34 an34 : Option Addr} {sl34 : Array (Option Value)} {oc34 kV34 dc34 pm34 cd34 ct34 : Value}
    (a34 : PySem.W.nsIn K mainGlobals "law" = some (some (.ref f34))) (l34 : K.lookup f34 = some ⟨oc34, od34, .func (PySem.W.fnOf "law" "law" (defArgs st_law) (defBody st_law) (defScope st_law) .none kV34 dc34 pm34 an34 cd34 ct34), sl34⟩) (c34 : PySem.W.codeIn K cd34 "law" = true) (k34 : PySem.W.keepIn K (.ref f34) = true)
    {C0 : Addr} (ea0 : PySem.W.nsIn K mainGlobals "InvalidCount" = some (some (.ref C0))) (ex0 : PySem.W.excIn K C0 [.type "ValueError", .type "Exception", .type "BaseException", .type "object"] "ValueError.__new__" = true) (ek0 : PySem.W.keepIn K (.ref C0) = true) (eb0 : PySem.W.subIn K (.ref C0) (.type "BaseException") = some true) (et0 : PySem.W.typeIn K (.ref C0) = some (.type "type"))
    {C1 : Addr} (ea1 : PySem.W.nsIn K mainGlobals "InvalidRule" = some (some (.ref C1))) (ex1 : PySem.W.excIn K C1 [.type "ValueError", .type "Exception", .type "BaseException", .type "object"] "ValueError.__new__" = true) (ek1 : PySem.W.keepIn K (.ref C1) = true) (eb1 : PySem.W.subIn K (.ref C1) (.type "BaseException") = some true) (et1 : PySem.W.typeIn K (.ref C1) = some (.type "type"))
    {C2 : Addr} (ea2 : PySem.W.nsIn K mainGlobals "InvalidShots" = some (some (.ref C2))) (ex2 : PySem.W.excIn K C2 [.type "ValueError", .type "Exception", .type "BaseException", .type "object"] "ValueError.__new__" = true) (ek2 : PySem.W.keepIn K (.ref C2) = true) (eb2 : PySem.W.subIn K (.ref C2) (.type "BaseException") = some true) (et2 : PySem.W.typeIn K (.ref C2) = some (.type "type"))
    {X0 : Addr} (xa0 : PySem.W.nsIn K mainGlobals "InvalidCount" = some (some (.ref X0))) (xg0 : PySem.W.findIn K (.ref X0) "__getattribute__" = some (some (.builtin "BaseException.__getattribute__"))) (xk0 : PySem.W.findIn K (.ref X0) "__getattr__" = some none) (xs0 : PySem.W.subIn K (.ref X0) (.type "BaseException") = some true) (xd0 : PySem.W.hasDictIn K X0 = true) (xc0 : PySem.W.findIn K (.ref X0) "__class__" = some (some (.builtin "object.__class__"))) (xn0 : PySem.W.specialIn K (.builtin "object.__class__") "__get__" = some (some (.builtin "getset_descriptor.__get__"))) (xt0 : PySem.W.takesIn K (.builtin "object.__class__") = some true) (xm0 : PySem.W.mroIn K X0 (.type "object") = some true) (xy0 : PySem.W.typeIn K (.ref X0) = some (.type "type"))
    {X1 : Addr} (xa1 : PySem.W.nsIn K mainGlobals "PollError" = some (some (.ref X1))) (xg1 : PySem.W.findIn K (.ref X1) "__getattribute__" = some (some (.builtin "BaseException.__getattribute__"))) (xk1 : PySem.W.findIn K (.ref X1) "__getattr__" = some none) (xs1 : PySem.W.subIn K (.ref X1) (.type "BaseException") = some true) (xd1 : PySem.W.hasDictIn K X1 = true) (xc1 : PySem.W.findIn K (.ref X1) "__class__" = some (some (.builtin "object.__class__"))) (xn1 : PySem.W.specialIn K (.builtin "object.__class__") "__get__" = some (some (.builtin "getset_descriptor.__get__"))) (xt1 : PySem.W.takesIn K (.builtin "object.__class__") = some true) (xm1 : PySem.W.mroIn K X1 (.type "object") = some true) (xy1 : PySem.W.typeIn K (.ref X1) = some (.type "type"))
    {SD0 SC0 : Addr} (sda0 : PySem.W.nsIn K mainGlobals "InvalidCount" = some (some (.ref SD0))) (sca0 : PySem.W.nsIn K mainGlobals "InvalidCount" = some (some (.ref SC0))) (ssu0 : PySem.W.subIn K (.ref SD0) (.ref SC0) = some true)
    {SD1 SC1 : Addr} (sda1 : PySem.W.nsIn K mainGlobals "InvalidCount" = some (some (.ref SD1))) (sca1 : PySem.W.nsIn K mainGlobals "PollError" = some (some (.ref SC1))) (ssu1 : PySem.W.subIn K (.ref SD1) (.ref SC1) = some true)
    {fh : Addr} {oh : Option Addr} {nh : Nat} {slh : Array (Option Value)} {th1 th2 : _} (ha : PySem.W.nsIn K mainGlobals "HALVES" = some (some (.ref fh))) (hl : K.lookup fh = some ⟨.type "tuple", oh, .seq #[.str "up" th1, .str "down" th2] nh, slh⟩)
    (li0 : (("MOST" : Str), PySem.W.WData.int 1000000) ∈ lv)
    {tk1 : _} (li1 : PySem.W.nsIn K mainGlobals "SHOTS" = some (some (.int 8 tk1)))
    (z_isinstance : PySem.W.nsIn K mainGlobals "isinstance" = some none)
    (z_int : PySem.W.nsIn K mainGlobals "int" = some none)
    (z_bool : PySem.W.nsIn K mainGlobals "bool" = some none)
    (z_str : PySem.W.nsIn K mainGlobals "str" = some none)
    (z_tuple : PySem.W.nsIn K mainGlobals "tuple" = some none)
    (z_list : PySem.W.nsIn K mainGlobals "list" = some none)
    (z_set : PySem.W.nsIn K mainGlobals "set" = some none)
    (z_dict : PySem.W.nsIn K mainGlobals "dict" = some none)
    (z_len : PySem.W.nsIn K mainGlobals "len" = some none)
    (z_max : PySem.W.nsIn K mainGlobals "max" = some none)
    (z_min : PySem.W.nsIn K mainGlobals "min" = some none)
    (z_sum : PySem.W.nsIn K mainGlobals "sum" = some none)
    (z_all : PySem.W.nsIn K mainGlobals "all" = some none)
    (z_any : PySem.W.nsIn K mainGlobals "any" = some none)
    (z_range : PySem.W.nsIn K mainGlobals "range" = some none)
    (z_zip : PySem.W.nsIn K mainGlobals "zip" = some none)
    (z_enumerate : PySem.W.nsIn K mainGlobals "enumerate" = some none)
    (z_reversed : PySem.W.nsIn K mainGlobals "reversed" = some none)
    (z_sorted : PySem.W.nsIn K mainGlobals "sorted" = some none)
    : ∃ fd : FuncData, (∀ (s : Shared) (v : Value), BindsTo s fd ⟨[v], []⟩ [("script", v)]) ∧ ∀ base : Heap, K.In base → base.Ns mainGlobals mg → FnOk l.prog w K mg base (L2.CX l.prog w) 8 fa fd ["script"] (spP K mg M_law) := by
  have e := hfa.symm.trans (PySem.W.mg_of X G a34)
  cases e
  have F0 := fun_mk (st := st_law_bag) l0 c0 k0
  have b0 := F0.binds (ps := ["script", "k"]) fun _ _ _ _ _ _ us hl => match us, hl with | [_, _], _ => rfl
  have F1 := fun_mk (st := st_law_take) l1 c1 k1
  have b1 := F1.binds (ps := ["bag", "count"]) fun _ _ _ _ _ _ us hl => match us, hl with | [_, _], _ => rfl
  have F2 := fun_mk (st := st_law_of) l2 c2 k2
  have b2 := F2.binds (ps := ["bag", "some"]) fun _ _ _ _ _ _ us hl => match us, hl with | [_, _], _ => rfl
  have F3 := fun_mk (st := st_law_scale) l3 c3 k3
  have b3 := F3.binds (ps := ["rule"]) fun _ _ _ _ _ _ us hl => match us, hl with | [_], _ => rfl
  have F4 := fun_mk (st := st_law_number) l4 c4 k4
  have b4 := F4.binds (ps := ["rule", "votes", "total"]) fun _ _ _ _ _ _ us hl => match us, hl with | [_, _, _], _ => rfl
  have F5 := fun_mk (st := st_law_poll) l5 c5 k5
  have b5 := F5.binds (ps := ["bag", "rule", "options", "most", "wide"]) fun _ _ _ _ _ _ us hl => match us, hl with | [_, _, _, _, _], _ => rfl
  have F6 := fun_mk (st := st_law_cropped) l6 c6 k6
  have b6 := F6.binds (ps := ["bag", "shots", "often"]) fun _ _ _ _ _ _ us hl => match us, hl with | [_, _, _], _ => rfl
  have F7 := fun_mk (st := st_law_spoiled) l7 c7 k7
  have b7 := F7.binds (ps := ["bag", "rule", "shots"]) fun _ _ _ _ _ _ us hl => match us, hl with | [_, _, _], _ => rfl
  have F8 := fun_mk (st := st_is_integer) l8 c8 k8
  have b8 := F8.binds (ps := ["value", "low", "high"]) fun _ _ _ _ _ _ us hl => match us, hl with | [_, _, _], _ => rfl
  have F9 := fun_mk (st := st_is_rule) l9 c9 k9
  have b9 := F9.binds (ps := ["value"]) fun _ _ _ _ _ _ us hl => match us, hl with | [_], _ => rfl
  have F10 := fun_mk (st := st_require_rule) l10 c10 k10
  have b10 := F10.binds (ps := ["rule"]) fun _ _ _ _ _ _ us hl => match us, hl with | [_], _ => rfl
  have F11 := fun_mk (st := st_scale_of) l11 c11 k11
  have b11 := F11.binds (ps := ["rule"]) fun _ _ _ _ _ _ us hl => match us, hl with | [_], _ => rfl
  have F12 := fun_mk (st := st_are_numbers) l12 c12 k12
  have b12 := F12.binds (ps := ["rule", "value"]) fun _ _ _ _ _ _ us hl => match us, hl with | [_, _], _ => rfl
  have F13 := fun_mk (st := st_is_shot) l13 c13 k13
  have b13 := F13.binds (ps := ["rule", "value"]) fun _ _ _ _ _ _ us hl => match us, hl with | [_, _], _ => rfl
  have F14 := fun_mk (st := st_good_shots) l14 c14 k14
  have b14 := F14.binds (ps := ["rule", "value"]) fun _ _ _ _ _ _ us hl => match us, hl with | [_, _], _ => rfl
  have F15 := fun_mk (st := st_require_shots) l15 c15 k15
  have b15 := F15.binds (ps := ["rule", "shots"]) fun _ _ _ _ _ _ us hl => match us, hl with | [_, _], _ => rfl
  have F16 := fun_mk (st := st_totals_of) l16 c16 k16
  have b16 := F16.binds (ps := ["shots"]) fun _ _ _ _ _ _ us hl => match us, hl with | [_], _ => rfl
  have F17 := fun_mk (st := st_range_for) l17 c17 k17
  have b17 := F17.binds (ps := ["rule", "total", "number"]) fun _ _ _ _ _ _ us hl => match us, hl with | [_, _, _], _ => rfl
  have F18 := fun_mk (st := st_own_range) l18 c18 k18
  have b18 := F18.binds (ps := ["rule", "total", "number"]) fun _ _ _ _ _ _ us hl => match us, hl with | [_, _, _], _ => rfl
  have F19 := fun_mk (st := st_ranges_of) l19 c19 k19
  have b19 := F19.binds (ps := ["rule", "shots"]) fun _ _ _ _ _ _ us hl => match us, hl with | [_, _], _ => rfl
  have F20 := fun_mk (st := st_staircases) l20 c20 k20
  have b20 := F20.binds (ps := ["ranges"]) fun _ _ _ _ _ _ us hl => match us, hl with | [_], _ => rfl
  have F21 := fun_mk (st := st_fits) l21 c21 k21
  have b21 := F21.binds (ps := ["totals", "ranges"]) fun _ _ _ _ _ _ us hl => match us, hl with | [_, _], _ => rfl
  have F22 := fun_mk (st := st_narrowed) l22 c22 k22
  have b22 := F22.binds (ps := ["ranges", "index", "option", "low", "high"]) fun _ _ _ _ _ _ us hl => match us, hl with | [_, _, _, _, _], _ => rfl
  have F23 := fun_mk (st := st_smallest) l23 c23 k23
  have b23 := F23.binds (ps := ["totals", "ranges", "index", "option"]) fun _ _ _ _ _ _ us hl => match us, hl with | [_, _, _, _], _ => rfl
  have F24 := fun_mk (st := st_largest) l24 c24 k24
  have b24 := F24.binds (ps := ["totals", "ranges", "index", "option"]) fun _ _ _ _ _ _ us hl => match us, hl with | [_, _, _, _], _ => rfl
  have F25 := fun_mk (st := st_bounds_of) l25 c25 k25
  have b25 := F25.binds (ps := ["rule", "shots"]) fun _ _ _ _ _ _ us hl => match us, hl with | [_, _], _ => rfl
  have F26 := fun_mk (st := st_shown) l26 c26 k26
  have b26 := F26.binds (ps := ["rule", "votes", "total"]) fun _ _ _ _ _ _ us hl => match us, hl with | [_, _, _], _ => rfl
  have F27 := fun_mk (st := st_numbers_in) l27 c27 k27
  have b27 := F27.binds (ps := ["rule", "total", "pair"]) fun _ _ _ _ _ _ us hl => match us, hl with | [_, _, _], _ => rfl
  have F28 := fun_mk (st := st_sharper) l28 c28 k28
  have b28 := F28.binds (ps := ["rule", "shots", "decimals"]) fun _ _ _ _ _ _ us hl => match us, hl with | [_, _, _], _ => rfl
  have F29 := fun_mk (st := st_law_tuples) l29 c29 k29
  have b29 := F29.binds (ps := ["rule", "shot"]) fun _ _ _ _ _ _ us hl => match us, hl with | [_, _], _ => rfl
  have F30 := fun_mk (st := st_law_under) l30 c30 k30
  have b30 := F30.binds (ps := ["one", "other"]) fun _ _ _ _ _ _ us hl => match us, hl with | [_, _], _ => rfl
  have F31 := fun_mk (st := st_law_histories) l31 c31 k31
  have b31 := F31.binds (ps := ["rule", "shots"]) fun _ _ _ _ _ _ us hl => match us, hl with | [_, _], _ => rfl
  have F32 := fun_mk (st := st_law_due) l32 c32 k32
  have b32 := F32.binds (ps := ["rule", "shots", "decimals"]) fun _ _ _ _ _ _ us hl => match us, hl with | [_, _, _], _ => rfl
  have F33 := fun_mk (st := st_law_error) l33 c33 k33
  have b33 := F33.binds (ps := ["rule", "shots", "decimals"]) fun _ _ _ _ _ _ us hl => match us, hl with | [_, _, _], _ => rfl
  have F34 := fun_mk (st := st_law) l34 c34 k34
  refine ⟨PySem.W.fnOf "law" "law" (defArgs st_law) (defBody st_law) (defScope st_law) .none kV34 dc34 pm34 an34 cd34 ct34, fun s v => .of_eq rfl, fun base _ _ => ?_⟩
  exact top_ok (M := ⟨l.prog, w, K, mg, base⟩) ⟨PySem.W.mg_none_of X G z_isinstance, PySem.W.mg_none_of X G z_int, PySem.W.mg_none_of X G z_bool, PySem.W.mg_none_of X G z_str, PySem.W.mg_none_of X G z_tuple, PySem.W.mg_none_of X G z_list, PySem.W.mg_none_of X G z_set, PySem.W.mg_none_of X G z_dict, PySem.W.mg_none_of X G z_len, PySem.W.mg_none_of X G z_max, PySem.W.mg_none_of X G z_min, PySem.W.mg_none_of X G z_sum, PySem.W.mg_none_of X G z_all, PySem.W.mg_none_of X G z_any, PySem.W.mg_none_of X G z_range, PySem.W.mg_none_of X G z_zip, PySem.W.mg_none_of X G z_enumerate, PySem.W.mg_none_of X G z_reversed, PySem.W.mg_none_of X G z_sorted⟩
    ⟨C0, PySem.W.mg_of X G ea0, ex0, ek0, eb0, et0⟩
    ⟨C1, PySem.W.mg_of X G ea1, ex1, ek1, eb1, et1⟩
    ⟨C2, PySem.W.mg_of X G ea2, ex2, ek2, eb2, et2⟩
    ⟨X0, PySem.W.mg_of X G xa0, ⟨xg0, xk0, xs0, xd0, xc0, xn0, xt0, xm0⟩, xy0⟩
    ⟨X1, PySem.W.mg_of X G xa1, ⟨xg1, xk1, xs1, xd1, xc1, xn1, xt1, xm1⟩, xy1⟩
    ⟨SD0, SC0, PySem.W.mg_of X G sda0, PySem.W.mg_of X G sca0, ssu0⟩
    ⟨SD1, SC1, PySem.W.mg_of X G sda1, PySem.W.mg_of X G sca1, ssu1⟩
    (gc_loose loose li0)
    (gc_int ⟨_, PySem.W.mg_of X G li1⟩)
    (gc_two (PySem.W.mg_of X G ha) hl)
    F0 (PySem.W.mg_of X G a0) b0
    F1 (PySem.W.mg_of X G a1) b1
    F2 (PySem.W.mg_of X G a2) b2
    F3 (PySem.W.mg_of X G a3) b3
    F4 (PySem.W.mg_of X G a4) b4
    F5 (PySem.W.mg_of X G a5) b5
    F6 (PySem.W.mg_of X G a6) b6
    F7 (PySem.W.mg_of X G a7) b7
    F8 (PySem.W.mg_of X G a8) b8
    F9 (PySem.W.mg_of X G a9) b9
    F10 (PySem.W.mg_of X G a10) b10
    F11 (PySem.W.mg_of X G a11) b11
    F12 (PySem.W.mg_of X G a12) b12
    F13 (PySem.W.mg_of X G a13) b13
    F14 (PySem.W.mg_of X G a14) b14
    F15 (PySem.W.mg_of X G a15) b15
    F16 (PySem.W.mg_of X G a16) b16
    F17 (PySem.W.mg_of X G a17) b17
    F18 (PySem.W.mg_of X G a18) b18
    F19 (PySem.W.mg_of X G a19) b19
    F20 (PySem.W.mg_of X G a20) b20
    F21 (PySem.W.mg_of X G a21) b21
    F22 (PySem.W.mg_of X G a22) b22
    F23 (PySem.W.mg_of X G a23) b23
    F24 (PySem.W.mg_of X G a24) b24
    F25 (PySem.W.mg_of X G a25) b25
    F26 (PySem.W.mg_of X G a26) b26
    F27 (PySem.W.mg_of X G a27) b27
    F28 (PySem.W.mg_of X G a28) b28
    F29 (PySem.W.mg_of X G a29) b29
    F30 (PySem.W.mg_of X G a30) b30
    F31 (PySem.W.mg_of X G a31) b31
    F32 (PySem.W.mg_of X G a32) b32
    F33 (PySem.W.mg_of X G a33) b33
    F34
end Pj
open PySem PySem.W PyProof.Rows
set_option maxHeartbeats 0 in
theorem PySem.Challenge.cw_pollshots_k18_whole_what_more_decimals_s_holds : PySem.Challenge.rw_pollshots_k18_whole_what_more_decimals_s.Holds := by
  w_on; o_law; k_head; (case hw => w_witness2)
  k_fill
  refine Pj.walk_ofX (l := PySem.Challenge.rw_pollshots_k18_whole_what_more_decimals_s) (n := 63) (k := 8) (x := "script") (CX := fun w => L2.CX (PySem.Challenge.rw_pollshots_k18_whole_what_more_decimals_s).prog w) (sp := fun w mg => Pj.spP _ mg Pj.M_law) rfl (by decide) rfl ⟨rfl, by decide, by decide⟩ (fun w h Y => PySem.W.kIn_of Y) ?F (fun w mg H a ns hl hS => Pj.law_sp hl hS) (fun w H s e s' h => Pj.cx_no h)
  case F =>
    intro w mg fa h KX G XP hmg
    refine' Pj.all_mk KX G hmg XP.2 ?pj_a0 ?pj_l0 ?pj_c0 ?pj_k0 ?pj_a1 ?pj_l1 ?pj_c1 ?pj_k1 ?pj_a2 ?pj_l2 ?pj_c2 ?pj_k2 ?pj_a3 ?pj_l3 ?pj_c3 ?pj_k3 ?pj_a4 ?pj_l4 ?pj_c4 ?pj_k4 ?pj_a5 ?pj_l5 ?pj_c5 ?pj_k5 ?pj_a6 ?pj_l6 ?pj_c6 ?pj_k6 ?pj_a7 ?pj_l7 ?pj_c7 ?pj_k7 ?pj_a8 ?pj_l8 ?pj_c8 ?pj_k8 ?pj_a9 ?pj_l9 ?pj_c9 ?pj_k9 ?pj_a10 ?pj_l10 ?pj_c10 ?pj_k10 ?pj_a11 ?pj_l11 ?pj_c11 ?pj_k11 ?pj_a12 ?pj_l12 ?pj_c12 ?pj_k12 ?pj_a13 ?pj_l13 ?pj_c13 ?pj_k13 ?pj_a14 ?pj_l14 ?pj_c14 ?pj_k14 ?pj_a15 ?pj_l15 ?pj_c15 ?pj_k15 ?pj_a16 ?pj_l16 ?pj_c16 ?pj_k16 ?pj_a17 ?pj_l17 ?pj_c17 ?pj_k17 ?pj_a18 ?pj_l18 ?pj_c18 ?pj_k18 ?pj_a19 ?pj_l19 ?pj_c19 ?pj_k19 ?pj_a20 ?pj_l20 ?pj_c20 ?pj_k20 ?pj_a21 ?pj_l21 ?pj_c21 ?pj_k21 ?pj_a22 ?pj_l22 ?pj_c22 ?pj_k22 ?pj_a23 ?pj_l23 ?pj_c23 ?pj_k23 ?pj_a24 ?pj_l24 ?pj_c24 ?pj_k24 ?pj_a25 ?pj_l25 ?pj_c25 ?pj_k25 ?pj_a26 ?pj_l26 ?pj_c26 ?pj_k26 ?pj_a27 ?pj_l27 ?pj_c27 ?pj_k27 ?pj_a28 ?pj_l28 ?pj_c28 ?pj_k28 ?pj_a29 ?pj_l29 ?pj_c29 ?pj_k29 ?pj_a30 ?pj_l30 ?pj_c30 ?pj_k30 ?pj_a31 ?pj_l31 ?pj_c31 ?pj_k31 ?pj_a32 ?pj_l32 ?pj_c32 ?pj_k32 ?pj_a33 ?pj_l33 ?pj_c33 ?pj_k33 ?pj_a34 ?pj_l34 ?pj_c34 ?pj_k34 ?pj_ea0 ?pj_ex0 ?pj_ek0 ?pj_eb0 ?pj_et0 ?pj_ea1 ?pj_ex1 ?pj_ek1 ?pj_eb1 ?pj_et1 ?pj_ea2 ?pj_ex2 ?pj_ek2 ?pj_eb2 ?pj_et2 ?pj_xa0 ?pj_xg0 ?pj_xk0 ?pj_xs0 ?pj_xd0 ?pj_xc0 ?pj_xn0 ?pj_xt0 ?pj_xm0 ?pj_xy0 ?pj_xa1 ?pj_xg1 ?pj_xk1 ?pj_xs1 ?pj_xd1 ?pj_xc1 ?pj_xn1 ?pj_xt1 ?pj_xm1 ?pj_xy1 ?pj_sda0 ?pj_sca0 ?pj_ssu0 ?pj_sda1 ?pj_sca1 ?pj_ssu1 ?pj_ha ?pj_hl ?pj_li0 ?pj_li1 ?pj_z_isinstance ?pj_z_int ?pj_z_bool ?pj_z_str ?pj_z_tuple ?pj_z_list ?pj_z_set ?pj_z_dict ?pj_z_len ?pj_z_max ?pj_z_min ?pj_z_sum ?pj_z_all ?pj_z_any ?pj_z_range ?pj_z_zip ?pj_z_enumerate ?pj_z_reversed ?pj_z_sorted
    (case pj_a0 => k_is); (case pj_l0 => k_is); (case pj_c0 => k_is); (case pj_k0 => k_is); (case pj_a1 => k_is); (case pj_l1 => k_is); (case pj_c1 => k_is); (case pj_k1 => k_is)
    (case pj_a2 => k_is); (case pj_l2 => k_is); (case pj_c2 => k_is); (case pj_k2 => k_is); (case pj_a3 => k_is); (case pj_l3 => k_is); (case pj_c3 => k_is); (case pj_k3 => k_is)
    (case pj_a4 => k_is); (case pj_l4 => k_is); (case pj_c4 => k_is); (case pj_k4 => k_is); (case pj_a5 => k_is); (case pj_l5 => k_is); (case pj_c5 => k_is); (case pj_k5 => k_is)
    (case pj_a6 => k_is); (case pj_l6 => k_is); (case pj_c6 => k_is); (case pj_k6 => k_is); (case pj_a7 => k_is); (case pj_l7 => k_is); (case pj_c7 => k_is); (case pj_k7 => k_is)
    (case pj_a8 => k_is); (case pj_l8 => k_is); (case pj_c8 => k_is); (case pj_k8 => k_is); (case pj_a9 => k_is); (case pj_l9 => k_is); (case pj_c9 => k_is); (case pj_k9 => k_is)
    (case pj_a10 => k_is); (case pj_l10 => k_is); (case pj_c10 => k_is); (case pj_k10 => k_is); (case pj_a11 => k_is); (case pj_l11 => k_is); (case pj_c11 => k_is); (case pj_k11 => k_is)
    (case pj_a12 => k_is); (case pj_l12 => k_is); (case pj_c12 => k_is); (case pj_k12 => k_is); (case pj_a13 => k_is); (case pj_l13 => k_is); (case pj_c13 => k_is); (case pj_k13 => k_is)
    (case pj_a14 => k_is); (case pj_l14 => k_is); (case pj_c14 => k_is); (case pj_k14 => k_is); (case pj_a15 => k_is); (case pj_l15 => k_is); (case pj_c15 => k_is); (case pj_k15 => k_is)
    (case pj_a16 => k_is); (case pj_l16 => k_is); (case pj_c16 => k_is); (case pj_k16 => k_is); (case pj_a17 => k_is); (case pj_l17 => k_is); (case pj_c17 => k_is); (case pj_k17 => k_is)
    (case pj_a18 => k_is); (case pj_l18 => k_is); (case pj_c18 => k_is); (case pj_k18 => k_is); (case pj_a19 => k_is); (case pj_l19 => k_is); (case pj_c19 => k_is); (case pj_k19 => k_is)
    (case pj_a20 => k_is); (case pj_l20 => k_is); (case pj_c20 => k_is); (case pj_k20 => k_is); (case pj_a21 => k_is); (case pj_l21 => k_is); (case pj_c21 => k_is); (case pj_k21 => k_is)
    (case pj_a22 => k_is); (case pj_l22 => k_is); (case pj_c22 => k_is); (case pj_k22 => k_is); (case pj_a23 => k_is); (case pj_l23 => k_is); (case pj_c23 => k_is); (case pj_k23 => k_is)
    (case pj_a24 => k_is); (case pj_l24 => k_is); (case pj_c24 => k_is); (case pj_k24 => k_is); (case pj_a25 => k_is); (case pj_l25 => k_is); (case pj_c25 => k_is); (case pj_k25 => k_is)
    (case pj_a26 => k_is); (case pj_l26 => k_is); (case pj_c26 => k_is); (case pj_k26 => k_is); (case pj_a27 => k_is); (case pj_l27 => k_is); (case pj_c27 => k_is); (case pj_k27 => k_is)
    (case pj_a28 => k_is); (case pj_l28 => k_is); (case pj_c28 => k_is); (case pj_k28 => k_is); (case pj_a29 => k_is); (case pj_l29 => k_is); (case pj_c29 => k_is); (case pj_k29 => k_is)
    (case pj_a30 => k_is); (case pj_l30 => k_is); (case pj_c30 => k_is); (case pj_k30 => k_is); (case pj_a31 => k_is); (case pj_l31 => k_is); (case pj_c31 => k_is); (case pj_k31 => k_is)
    (case pj_a32 => k_is); (case pj_l32 => k_is); (case pj_c32 => k_is); (case pj_k32 => k_is); (case pj_a33 => k_is); (case pj_l33 => k_is); (case pj_c33 => k_is); (case pj_k33 => k_is)
    (case pj_a34 => k_is); (case pj_l34 => k_is); (case pj_c34 => k_is); (case pj_k34 => k_is); (case pj_ea0 => k_is); (case pj_ex0 => k_exc); (case pj_ek0 => k_is); (case pj_eb0 => k_is)
    (case pj_et0 => k_is); (case pj_ea1 => k_is); (case pj_ex1 => k_exc); (case pj_ek1 => k_is); (case pj_eb1 => k_is); (case pj_et1 => k_is); (case pj_ea2 => k_is); (case pj_ex2 => k_exc)
    (case pj_ek2 => k_is); (case pj_eb2 => k_is); (case pj_et2 => k_is); (case pj_xa0 => k_is); (case pj_xg0 => k_is); (case pj_xk0 => k_is); (case pj_xs0 => k_is); (case pj_xd0 => k_is)
    (case pj_xc0 => k_is); (case pj_xn0 => k_is); (case pj_xt0 => k_is); (case pj_xm0 => k_is); (case pj_xy0 => k_is); (case pj_xa1 => k_is); (case pj_xg1 => k_is); (case pj_xk1 => k_is)
    (case pj_xs1 => k_is); (case pj_xd1 => k_is); (case pj_xc1 => k_is); (case pj_xn1 => k_is); (case pj_xt1 => k_is); (case pj_xm1 => k_is); (case pj_xy1 => k_is); (case pj_sda0 => k_is)
    (case pj_sca0 => k_is); (case pj_ssu0 => k_is); (case pj_sda1 => k_is); (case pj_sca1 => k_is); (case pj_ssu1 => k_is); (case pj_ha => k_is); (case pj_hl => k_is); (case pj_li0 => simp)
    (case pj_li1 => k_is); (case pj_z_isinstance => k_is); (case pj_z_int => k_is); (case pj_z_bool => k_is); (case pj_z_str => k_is); (case pj_z_tuple => k_is); (case pj_z_list => k_is); (case pj_z_set => k_is)
    (case pj_z_dict => k_is); (case pj_z_len => k_is); (case pj_z_max => k_is); (case pj_z_min => k_is); (case pj_z_sum => k_is); (case pj_z_all => k_is); (case pj_z_any => k_is); (case pj_z_range => k_is)
    (case pj_z_zip => k_is); (case pj_z_enumerate => k_is); (case pj_z_reversed => k_is); (case pj_z_sorted => k_is)
