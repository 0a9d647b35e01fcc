import PyProof.Rows.All
import Wide.All
import OpenK.AllK
import Wide.FinOn
import HandS.ForMost
import HandS.Deep
import HandS.Wide
import HandS.WideBits
import HandS.Conv
import HandS.TupAny
import HandS.SortInts
import HandS.IsInst
import HandS.Flow
import HandS.Zip
import HandS.NoneIn
import KE.DataEq
import KE.OsArith
import KE.BitLaws
import HandS.Style
import HandS.TupMul
import PySem.Challenge.RW_standingasks_k11_judge_meeting
section
set_option Elab.async false
set_option linter.all false
set_option maxRecDepth 100000
set_option maxHeartbeats 4000000
namespace L2
open PySem
section
variable {K : PySem.W.Frag}
theorem dpAll_iff {H : Hp} : ∀ {vs : List V} {ds : List PyData}, DpAll K H vs ds ↔ vs.length = ds.length ∧ ∀ (i : Nat) (v : V) (d : PyData), vs[i]? = some v → ds[i]? = some d → Dp K H v d := by
  intro vs
  induction vs with
  | nil =>
    intro ds
    cases ds with
    | nil => exact ⟨fun _ => ⟨rfl, fun i v d h => (by simp at h)⟩, fun _ => .nil⟩
    | cons d ds => exact ⟨fun h => (by cases h), fun h => (by simp at h)⟩
  | cons v vs ih =>
    intro ds
    cases ds with
    | nil => exact ⟨fun h => (by cases h), fun h => (by simp at h)⟩
    | cons d ds =>
      constructor
      · intro h
        cases h with
        | cons h1 h2 =>
          obtain ⟨l, q⟩ := ih.mp h2
          refine ⟨by simp [l], fun i v' d' e1 e2 => ?_⟩
          cases i with
          | zero => simp at e1 e2; subst e1; subst e2; exact h1
          | succ i => exact q i v' d' (by simpa using e1) (by simpa using e2)
      · intro ⟨l, q⟩
        exact .cons (q 0 v d rfl rfl) (ih.mpr ⟨by simpa using l, fun i v' d' e1 e2 => q (i + 1) v' d' (by simpa using e1) (by simpa using e2)⟩)
theorem DpAll.len {H : Hp} {vs : List V} {ds : List PyData} (h : DpAll K H vs ds) : vs.length = ds.length := (dpAll_iff.mp h).1
theorem DpAll.get {H : Hp} {vs : List V} {ds : List PyData} (h : DpAll K H vs ds) {i : Nat} {d : PyData} (e : ds[i]? = some d) : ∃ v, vs[i]? = some v ∧ Dp K H v d := by
  have l := h.len
  have hi : i < vs.length := by have := (List.getElem?_eq_some_iff.mp e).1; omega
  exact ⟨vs[i], List.getElem?_eq_getElem hi, (dpAll_iff.mp h).2 i _ d (List.getElem?_eq_getElem hi) e⟩
theorem DpAll.getV {H : Hp} {vs : List V} {ds : List PyData} (h : DpAll K H vs ds) {i : Nat} {v : V} (e : vs[i]? = some v) : ∃ d, ds[i]? = some d ∧ Dp K H v d := by
  have l := h.len
  have hi : i < ds.length := by have := (List.getElem?_eq_some_iff.mp e).1; omega
  exact ⟨ds[i], List.getElem?_eq_getElem hi, (dpAll_iff.mp h).2 i v _ e (List.getElem?_eq_getElem hi)⟩
theorem DpAll.app {H : Hp} : ∀ {vs ws : List V} {ds es : List PyData}, DpAll K H vs ds → DpAll K H ws es → DpAll K H (vs ++ ws) (ds ++ es)
  | _, _, _, _, .nil, h => h
  | _, _, _, _, .cons h1 h2, h => .cons h1 (DpAll.app h2 h)
theorem DpAll.take {H : Hp} : ∀ {vs : List V} {ds : List PyData} (n : Nat), DpAll K H vs ds → DpAll K H (vs.take n) (ds.take n)
  | _, _, 0, _ => by simpa using DpAll.nil
  | _, _, n + 1, .nil => .nil
  | _, _, n + 1, .cons h1 h2 => .cons h1 (DpAll.take n h2)
theorem DpAll.drop {H : Hp} : ∀ {vs : List V} {ds : List PyData} (n : Nat), DpAll K H vs ds → DpAll K H (vs.drop n) (ds.drop n)
  | _, _, 0, h => by simpa using h
  | _, _, n + 1, .nil => .nil
  | _, _, n + 1, .cons h1 h2 => DpAll.drop n h2
theorem DpAll.set {H : Hp} {v : V} {d : PyData} (hv : Dp K H v d) : ∀ {vs : List V} {ds : List PyData} (n : Nat), DpAll K H vs ds → DpAll K H (vs.set n v) (ds.set n d)
  | _, _, _, .nil => .nil
  | _, _, 0, .cons h1 h2 => .cons hv h2
  | _, _, n + 1, .cons h1 h2 => .cons h1 (DpAll.set hv n h2)
theorem DpAll.erase {H : Hp} : ∀ {vs : List V} {ds : List PyData} (n : Nat), DpAll K H vs ds → DpAll K H (vs.eraseIdx n) (ds.eraseIdx n)
  | _, _, _, .nil => .nil
  | _, _, 0, .cons h1 h2 => h2
  | _, _, n + 1, .cons h1 h2 => .cons h1 (DpAll.erase n h2)
theorem DpAll.rev {H : Hp} : ∀ {vs : List V} {ds : List PyData}, DpAll K H vs ds → DpAll K H vs.reverse ds.reverse
  | _, _, .nil => .nil
  | _, _, .cons h1 h2 => by
    rw [List.reverse_cons, List.reverse_cons]
    exact DpAll.app (DpAll.rev h2) (.cons h1 .nil)
theorem DpAll.ints {H : Hp} : ∀ (ns : List Int), DpAll K H (ns.map V.int) (ns.map PyData.int)
  | [] => .nil
  | n :: ns => .cons (.int n) (DpAll.ints ns)
theorem DpAll.intsV {H : Hp} : ∀ {vs : List V} {ns : List Int}, DpAll K H vs (ns.map PyData.int) → vs = ns.map V.int := by
  intro vs ns
  induction ns generalizing vs with
  | nil => intro h; cases h; rfl
  | cons n ns ih =>
    intro h
    cases h with
    | cons h1 h2 => cases h1; rw [ih h2]; rfl
theorem DpAll.boolsV {H : Hp} : ∀ {vs : List V} {ns : List Bool}, DpAll K H vs (ns.map PyData.bool) → vs = ns.map V.bl := by
  intro vs ns
  induction ns generalizing vs with
  | nil => intro h; cases h; rfl
  | cons n ns ih =>
    intro h
    cases h with
    | cons h1 h2 => cases h1; rw [ih h2]; rfl
theorem DpAll.strsV {H : Hp} : ∀ {vs : List V} {ns : List Str}, DpAll K H vs (ns.map PyData.str) → vs = ns.map V.str := by
  intro vs ns
  induction ns generalizing vs with
  | nil => intro h; cases h; rfl
  | cons n ns ih =>
    intro h
    cases h with
    | cons h1 h2 => cases h1; rw [ih h2]; rfl

theorem same_upd' {H : Hp} {l : Addr} {o : HO} (h : H l = none) : Same H (upd H l o) := fun b z e => by
  rw [upd_ne (ne_of_none e h)]
  exact e
end
end L2
namespace PV
open PySem L2

abbrev D := PyData
/-- a slot: nothing; a datum that never changes; a list of the frame's own -/
inductive Sl where
  | no
  | fz (d : D)
  | ow (d : D)
abbrev DS := List Sl
/-- what an expression gives: a datum, a list made just now, the thing in slot i -/
inductive Ev where
  | val (d : D)
  | fresh (d : D)
  | at_ (i : Nat)
abbrev DE := DS → (Ev → DS → Prop) → Prop
abbrev DF := DS → (D → DS → Prop) → Prop
abbrev DT := DS → (Bool → DS → Prop) → Prop

section
variable {K : PySem.W.Frag}
theorem SqL.mo {H H' : Hp} {a : Addr} {xs : List V} (e : Same H H') (h : SqL K H a xs) : SqL K H' a xs := e.seq h
theorem SqT.mo {H H' : Hp} {a : Addr} {xs : List V} (e : Same H H') (h : SqT K H a xs) : SqT K H' a xs := by
  rcases h with (h | ⟨o, h⟩) | h
  · exact .inl (.inl (e _ _ h))
  · exact .inl (.inr ⟨o, e _ _ h⟩)
  · exact .inr h
mutual
theorem Dp.mo {H H' : Hp} (e : Same H H') : ∀ (d : D) (v : V), Dp K H v d → Dp K H' v d
  | .none, _, h => by cases h; exact .non
  | .bool b, _, h => by cases h; exact .bl b
  | .int i, _, h => by cases h; exact .int i
  | .str x, _, h => by cases h; exact .str x
  | .list ds, _, h => by
    cases h with
    | lst hs ha => exact .lst (SqL.mo e hs) (DpAll.mo e ds _ ha)
  | .tuple ds, _, h => by
    cases h with
    | tup hs ha => exact .tup (SqT.mo e hs) (DpAll.mo e ds _ ha)
  | .dict _, _, h => by cases h
theorem DpAll.mo {H H' : Hp} (e : Same H H') : ∀ (ds : List D) (vs : List V), DpAll K H vs ds → DpAll K H' vs ds
  | [], _, h => by cases h; exact .nil
  | d :: ds, _, h => by
    cases h with
    | cons h1 h2 => exact .cons (Dp.mo e d _ h1) (DpAll.mo e ds _ h2)
end
/-- what an owned object holds -/
def Own (K : PySem.W.Frag) (G : Hp) : HO → D → Prop
  | .lst vs, .list ds => DpAll K G vs ds
  | _, _ => False
theorem Own.mo {G G' : Hp} (e : Same G G') : ∀ {o : HO} {d : D}, Own K G o d → Own K G' o d := by
  intro o d h
  cases o <;> cases d <;> first | exact h | exact DpAll.mo e _ _ h

def OwAt (ds : DS) (σ : St) (i : Nat) (a : Addr) : Prop := (∃ d, ds[i]? = some (.ow d)) ∧ σ[i]? = some (some (.ref a))
def Owns (ds : DS) (σ : St) (a : Addr) : Prop := ∃ i, OwAt ds σ i a
structure Rel (K : PySem.W.Frag) (G : Hp) (ds : DS) (σ : St) (H : Hp) : Prop where
  sub : Same G H
  len : ds.length = σ.length
  fz : ∀ (i : Nat) (d : D), ds[i]? = some (Sl.fz d) → ∃ v : V, σ[i]? = some (some v) ∧ Dp K G v d
  ow : ∀ (i : Nat) (d : D), ds[i]? = some (Sl.ow d) → ∃ (a : Addr) (o : HO), σ[i]? = some (some (.ref a)) ∧ G a = none ∧ H a = some o ∧ Own K G o d
  ap : ∀ (i j : Nat) (a : Addr), OwAt ds σ i a → OwAt ds σ j a → i = j
structure Ext (ds : DS) (σ : St) (G H : Hp) (ds' : DS) (σ' : St) (G' H' : Hp) : Prop where
  gg : Same G G'
  fr : ∀ b o, H b = some o → ¬ Owns ds σ b → H' b = some o
  nw : ∀ b o, G' b = some o → G b = none → H b = none ∨ Owns ds σ b
  ow : ∀ b, Owns ds' σ' b → Owns ds σ b ∨ H b = none
theorem Ext.refl (ds : DS) (σ : St) (G H : Hp) : Ext ds σ G H ds σ G H :=
  ⟨Same.refl G, fun _ _ h _ => h, fun b o h n => (by rw [n] at h; cases h), fun _ h => .inl h⟩
theorem Ext.nn {ds : DS} {σ : St} {G H : Hp} {ds' : DS} {σ' : St} {G' H' : Hp} (x : Ext ds σ G H ds' σ' G' H') {b : Addr} (h : H' b = none) : H b = none ∨ Owns ds σ b := by
  cases e : H b with
  | none => exact .inl rfl
  | some o =>
    by_cases q : Owns ds σ b
    · exact .inr q
    · rw [x.fr b o e q] at h; cases h
theorem Ext.trans {ds : DS} {σ : St} {G H : Hp} {ds1 : DS} {σ1 : St} {G1 H1 : Hp} {ds2 : DS} {σ2 : St} {G2 H2 : Hp} (x : Ext ds σ G H ds1 σ1 G1 H1) (y : Ext ds1 σ1 G1 H1 ds2 σ2 G2 H2) : Ext ds σ G H ds2 σ2 G2 H2 where
  gg := x.gg.trans y.gg
  fr := fun b o h n => by
    refine y.fr b o (x.fr b o h n) fun q => ?_
    rcases x.ow b q with q | q
    · exact n q
    · rw [h] at q; cases q
  nw := fun b o h n => by
    cases e : G1 b with
    | some u => exact x.nw b u e n
    | none =>
      rcases y.nw b o h e with q | q
      · exact x.nn q
      · exact (x.ow b q).symm
  ow := fun b h => by
    rcases y.ow b h with q | q
    · exact x.ow b q
    · exact (x.nn q).symm

/-- a value's content: frozen, or the content of an owned object -/
def Sh (K : PySem.W.Frag) (G H : Hp) (v : V) (d : D) : Prop := Dp K G v d ∨ ∃ a o, v = .ref a ∧ H a = some o ∧ Own K G o d
theorem Sh.list {G H : Hp} {v : V} {ds : List D} (s : Same G H) (h : Sh K G H v (.list ds)) : ∃ a vs, v = .ref a ∧ SqL K H a vs ∧ DpAll K G vs ds := by
  rcases h with h | ⟨a, o, e, h, q⟩
  · cases h with
    | lst hs ha => exact ⟨_, _, rfl, SqL.mo s hs, ha⟩
  · cases o with
    | lst vs => exact ⟨a, vs, e, .inl (.inl h), q⟩
    | _ => exact False.elim q
theorem Sh.tuple {G H : Hp} {v : V} {ds : List D} (s : Same G H) (h : Sh K G H v (.tuple ds)) : ∃ a vs, v = .ref a ∧ SqT K H a vs ∧ DpAll K G vs ds := by
  rcases h with h | ⟨a, o, e, h, q⟩
  · cases h with
    | tup hs ha => exact ⟨_, _, rfl, SqT.mo s hs, ha⟩
  · cases o <;> exact False.elim q
theorem Sh.dp {G H : Hp} {v : V} {d : D} (s : Same G H) (h : Sh K G H v d) : Dp K H v d := by
  rcases h with h | ⟨a, o, rfl, h, q⟩
  · exact Dp.mo s d v h
  · cases o <;> cases d <;> first | exact False.elim q | exact .lst (.inl (.inl h)) (DpAll.mo s _ _ q)
theorem Sh.int {G H : Hp} {v : V} {i : Int} (h : Sh K G H v (.int i)) : v = .int i := by
  rcases h with h | ⟨a, o, e, h, q⟩
  · cases h; rfl
  · cases o <;> exact False.elim q
theorem Sh.bool {G H : Hp} {v : V} {i : Bool} (h : Sh K G H v (.bool i)) : v = .bl i := by
  rcases h with h | ⟨a, o, e, h, q⟩
  · cases h; rfl
  · cases o <;> exact False.elim q
theorem Sh.str {G H : Hp} {v : V} {i : Str} (h : Sh K G H v (.str i)) : v = .str i := by
  rcases h with h | ⟨a, o, e, h, q⟩
  · cases h; rfl
  · cases o <;> exact False.elim q
theorem Sh.non {G H : Hp} {v : V} (h : Sh K G H v .none) : v = .non := by
  rcases h with h | ⟨a, o, e, h, q⟩
  · cases h; rfl
  · cases o <;> exact False.elim q

def EvR (K : PySem.W.Frag) (G : Hp) (ds : DS) (σ : St) (H : Hp) (v : V) : Ev → Prop
  | .val d => Dp K G v d
  | .fresh d => ∃ a o, v = .ref a ∧ G a = none ∧ H a = some o ∧ Own K G o d ∧ ¬ Owns ds σ a
  | .at_ i => σ[i]? = some (some v)
/-- a new thing is new, or was one's own -/
def FrN (ds : DS) (σ : St) (H : Hp) (v : V) : Ev → Prop
  | .fresh _ => ∀ a, v = .ref a → H a = none ∨ Owns ds σ a
  | _ => True
/-- the content by data -/
def rd (e : Ev) (ds : DS) (Q : D → Prop) : Prop := match e with
  | .val d => Q d
  | .fresh d => Q d
  | .at_ i => match ds[i]? with
    | some (.fz d) => Q d
    | some (.ow d) => Q d
    | _ => False
theorem rd_sh {G : Hp} {ds : DS} {σ : St} {H : Hp} {v : V} {e : Ev} {Q : D → Prop} (R : Rel K G ds σ H) (h : EvR K G ds σ H v e) (q : rd e ds Q) : ∃ d, Sh K G H v d ∧ Q d := by
  cases e with
  | val d => exact ⟨d, .inl h, q⟩
  | fresh d =>
    obtain ⟨a, o, e, _, h, w, _⟩ := h
    exact ⟨d, .inr ⟨a, o, e, h, w⟩, q⟩
  | at_ i =>
    have h : σ[i]? = some (some v) := h
    unfold rd at q
    split at q
    · rename_i d e
      exact False.elim (by cases e)
    · rename_i e; cases e
    · rename_i j e
      cases e
      split at q
      · rename_i d e
        obtain ⟨v', h1, h2⟩ := R.fz i d e
        rw [h] at h1; cases h1
        exact ⟨d, .inl h2, q⟩
      · rename_i d e
        obtain ⟨a, o, h1, _, h2, h3⟩ := R.ow i d e
        rw [h] at h1; cases h1
        exact ⟨d, .inr ⟨a, o, rfl, h2, h3⟩, q⟩
      · exact q.elim
/-- kept across another evaluation -/
def nm : Ev → Ev
  | .val d => .val d
  | .fresh d => .val d
  | .at_ i => .at_ i
end

theorem Rel.updO {K : PySem.W.Frag} {G : Hp} {ds : DS} {σ : St} {H : Hp} (R : Rel K G ds σ H) {p : Addr} {o : HO} (n : H p = none) : Rel K G ds σ (upd H p o) where
  sub := fun b u h => by rw [upd_ne (ne_of_none (R.sub b u h) n)]; exact R.sub b u h
  len := R.len
  fz := R.fz
  ow := fun i d h => by
    obtain ⟨a, o', h1, h2, h3, h4⟩ := R.ow i d h
    exact ⟨a, o', h1, h2, by rw [upd_ne (ne_of_none h3 n)]; exact h3, h4⟩
  ap := R.ap
theorem Rel.owNe {K : PySem.W.Frag} {G : Hp} {ds : DS} {σ : St} {H : Hp} (R : Rel K G ds σ H) {a : Addr} (h : Owns ds σ a) : G a = none ∧ ∃ o, H a = some o := by
  obtain ⟨i, ⟨d, e⟩, s⟩ := h
  obtain ⟨a', o, h1, h2, h3, _⟩ := R.ow i d e
  rw [s] at h1; cases h1
  exact ⟨h2, o, h3⟩
theorem Rel.nOwn {K : PySem.W.Frag} {G : Hp} {ds : DS} {σ : St} {H : Hp} (R : Rel K G ds σ H) {a : Addr} (h : H a = none) : ¬ Owns ds σ a := fun q => by
  obtain ⟨_, o, e⟩ := R.owNe q
  rw [h] at e; cases e
/-- an address that is no slot's is made firm -/
theorem Rel.firm {K : PySem.W.Frag} {G : Hp} {ds : DS} {σ : St} {H : Hp} (R : Rel K G ds σ H) {p : Addr} {o : HO} (n : G p = none) (h : H p = some o) (no : ¬ Owns ds σ p) : Rel K (upd G p o) ds σ H := by
  have s : Same G (upd G p o) := same_upd' n
  refine ⟨fun b u e => ?_, R.len, fun i d e => ?_, fun i d e => ?_, R.ap⟩
  · by_cases hb : b = p
    · subst hb; rw [upd_same] at e; cases e; exact h
    · rw [upd_ne hb] at e; exact R.sub b u e
  · obtain ⟨v, h1, h2⟩ := R.fz i d e
    exact ⟨v, h1, Dp.mo s d v h2⟩
  · obtain ⟨a, o', h1, h2, h3, h4⟩ := R.ow i d e
    refine ⟨a, o', h1, ?_, h3, Own.mo s h4⟩
    rw [upd_ne (fun z => no ⟨i, ⟨d, e⟩, by rw [← z]; exact h1⟩)]; exact h2
theorem Ext.firm {ds : DS} {σ : St} {G H : Hp} {p : Addr} {o : HO} (n : G p = none) (hp : H p = none ∨ Owns ds σ p) : Ext ds σ G H ds σ (upd G p o) H :=
  ⟨same_upd' n, fun _ _ h _ => h, fun b u e z => (by
    by_cases hb : b = p
    · subst hb; exact hp
    · rw [upd_ne hb, z] at e; cases e), fun _ h => .inl h⟩
theorem Ext.updO {ds : DS} {σ : St} {G H : Hp} {p : Addr} {o : HO} (n : H p = none) : Ext ds σ G H ds σ G (upd H p o) :=
  ⟨Same.refl G, fun b u h _ => (by rw [upd_ne (ne_of_none h n)]; exact h), fun b u e z => (by rw [z] at e; cases e), fun _ h => .inl h⟩
/-- a new thing that is firm at once -/
theorem Rel.newF {K : PySem.W.Frag} {G : Hp} {ds : DS} {σ : St} {H : Hp} (R : Rel K G ds σ H) {p : Addr} {o : HO} (n : H p = none) : Rel K (upd G p o) ds σ (upd H p o) ∧ Ext ds σ G H ds σ (upd G p o) (upd H p o) := by
  have hn : G p = none := by
    cases e : G p with
    | none => rfl
    | some u => have := R.sub p u e; rw [n] at this; cases this
  have no := R.nOwn n
  refine ⟨(R.updO n).firm hn upd_same no, ⟨same_upd' hn, (Ext.updO (G := G) n).fr, fun b u e z => ?_, fun _ h => .inl h⟩⟩
  by_cases hb : b = p
  · subst hb; exact .inl n
  · rw [upd_ne hb, z] at e; cases e
theorem Rel.gnone {K : PySem.W.Frag} {G : Hp} {ds : DS} {σ : St} {H : Hp} (R : Rel K G ds σ H) {p : Addr} (n : H p = none) : G p = none := by
  cases e : G p with
  | none => rfl
  | some u => have := R.sub p u e; rw [n] at this; cases this

/-- one of two ways -/
def br (b : Bool) (A B : Prop) : Prop := match b with
  | true => A
  | false => B
theorem br_i {b : Bool} {A B : Prop} (h1 : b = true → A) (h2 : b = false → B) : br b A B := by
  cases b with
  | true => exact h1 rfl
  | false => exact h2 rfl
/-! ### judgements -/
def PVE (X : Cx) (e : Expr) (f : DE) : Prop := ∃ t, PE X e t ∧ ∀ (G : Hp) (ds : DS) (σ : St) (H : Hp) (DQ : Ev → DS → Prop) (Q : VK), Rel X.K G ds σ H → f ds DQ →
  (∀ ev ds' v G' H', DQ ev ds' → Rel X.K G' ds' σ H' → Ext ds σ G H ds' σ G' H' → EvR X.K G' ds' σ H' v ev → FrN ds σ H v ev → Q v H') → t σ H Q
def PVF (X : Cx) (e : Expr) (f : DF) : Prop := ∃ t, PE X e t ∧ ∀ (G : Hp) (ds : DS) (σ : St) (H : Hp) (DQ : D → DS → Prop) (Q : VK), Rel X.K G ds σ H → f ds DQ →
  (∀ d ds' v G' H', DQ d ds' → Rel X.K G' ds' σ H' → Ext ds σ G H ds' σ G' H' → Dp X.K G' v d → Q v H') → t σ H Q
def PVT (X : Cx) (e : Expr) (f : DT) : Prop := ∃ t, PT X e t ∧ ∀ (G : Hp) (ds : DS) (σ : St) (H : Hp) (DQ : Bool → DS → Prop) (Q : Bool → Hp → Prop), Rel X.K G ds σ H → f ds DQ →
  (∀ b ds' G' H', DQ b ds' → Rel X.K G' ds' σ H' → Ext ds σ G H ds' σ G' H' → Q b H') → t σ H Q

/-! ### making firm -/
def frz (e : Ev) (ds : DS) (Q : D → DS → Prop) : Prop := match e with
  | .val d => Q d ds
  | .fresh d => Q d ds
  | .at_ i => match ds[i]? with
    | some (.fz d) => Q d ds
    | some (.ow d) => Q d (ds.set i (.fz d))
    | _ => False
def eFz (f : DE) : DF := fun ds Q => f ds fun e ds1 => frz e ds1 Q
theorem own_lst {K : PySem.W.Frag} {G : Hp} {o : HO} {d : D} (h : Own K G o d) : ∃ vs ds, o = .lst vs ∧ d = .list ds ∧ DpAll K G vs ds := by
  cases o <;> cases d <;> first | exact False.elim h | exact ⟨_, _, rfl, rfl, h⟩
theorem owAt_set {ds : DS} {σ : St} {i j : Nat} {a : Addr} {s : Sl} (hs : ∀ d, s ≠ .ow d) (h : OwAt (ds.set i s) σ j a) : OwAt ds σ j a ∧ j ≠ i := by
  obtain ⟨⟨d, e⟩, h2⟩ := h
  by_cases hij : i = j
  · subst hij
    rw [List.getElem?_set] at e
    rw [if_pos rfl] at e
    split at e
    · exact absurd (Option.some.inj e) (hs d)
    · cases e
  · rw [List.getElem?_set_ne hij] at e
    exact ⟨⟨⟨d, e⟩, h2⟩, fun z => hij z.symm⟩
/-- the list in slot i is made firm -/
theorem Rel.firmAt {K : PySem.W.Frag} {G : Hp} {ds : DS} {σ : St} {H : Hp} (R : Rel K G ds σ H) {i : Nat} {d : D} (e : ds[i]? = some (.ow d)) :
    ∃ a G', σ[i]? = some (some (.ref a)) ∧ Rel K G' (ds.set i (.fz d)) σ H ∧ Ext ds σ G H (ds.set i (.fz d)) σ G' H ∧ Dp K G' (.ref a) d := by
  obtain ⟨a, o, h1, h2, h3, h4⟩ := R.ow i d e
  obtain ⟨vs, xs, rfl, rfl, h5⟩ := own_lst h4
  have hO : Owns ds σ a := ⟨i, ⟨_, e⟩, h1⟩
  have s : Same G (upd G a (.lst vs)) := same_upd' h2
  have hd : Dp K (upd G a (.lst vs)) (.ref a) (.list xs) := .lst (.inl (.inl upd_same)) (DpAll.mo s _ _ h5)
  refine ⟨a, upd G a (.lst vs), h1, ⟨fun b u q => ?_, (by rw [List.length_set]; exact R.len), fun j d' q => ?_, fun j d' q => ?_, fun j k b p q => ?_⟩, ⟨s, fun _ _ h _ => h, fun b u q z => ?_, fun b ⟨j, q⟩ => .inl ⟨j, (owAt_set (by intro _ z; cases z) q).1⟩⟩, hd⟩
  · by_cases hb : b = a
    · subst hb; rw [upd_same] at q; cases q; exact h3
    · rw [upd_ne hb] at q; exact R.sub b u q
  · by_cases hij : i = j
    · subst hij
      rw [List.getElem?_set] at q
      rw [if_pos rfl] at q
      split at q
      · cases q; exact ⟨_, h1, hd⟩
      · cases q
    · rw [List.getElem?_set_ne hij] at q
      obtain ⟨v, q1, q2⟩ := R.fz j d' q
      exact ⟨v, q1, Dp.mo s _ _ q2⟩
  · have hij : i ≠ j := by
      rintro rfl
      rw [List.getElem?_set] at q
      rw [if_pos rfl] at q
      split at q <;> cases q
    rw [List.getElem?_set_ne hij] at q
    obtain ⟨b, o', q1, q2, q3, q4⟩ := R.ow j d' q
    refine ⟨b, o', q1, ?_, q3, Own.mo s q4⟩
    rw [upd_ne]
    · exact q2
    · rintro rfl
      exact hij (R.ap i j b ⟨⟨_, e⟩, h1⟩ ⟨⟨_, q⟩, q1⟩)
  · exact R.ap j k b (owAt_set (by intro _ z; cases z) p).1 (owAt_set (by intro _ z; cases z) q).1
  · by_cases hb : b = a
    · subst hb; exact .inr hO
    · rw [upd_ne hb, z] at q; cases q
theorem frz_ok {K : PySem.W.Frag} {G : Hp} {ds : DS} {σ : St} {H : Hp} {v : V} {ev : Ev} {DQ : D → DS → Prop} {H0 : Hp} {ds0 : DS} (R : Rel K G ds σ H) (h : EvR K G ds σ H v ev) (q : frz ev ds DQ) :
    ∃ d ds' G', DQ d ds' ∧ Rel K G' ds' σ H ∧ Dp K G' v d ∧ Same G G' ∧ (∀ b o, G' b = some o → G b = none → Owns ds σ b ∨ ((∃ d, ev = .fresh d) ∧ v = .ref b)) ∧ (∀ b, Owns ds' σ b → Owns ds σ b) := by
  cases ev with
  | val d => exact ⟨d, ds, G, q, R, h, Same.refl G, fun b o e n => (by rw [n] at e; cases e), fun _ z => z⟩
  | fresh d =>
    obtain ⟨a, o, rfl, h1, h2, h3, h4⟩ := h
    obtain ⟨vs, xs, rfl, rfl, h5⟩ := own_lst h3
    refine ⟨_, ds, upd G a (.lst vs), q, R.firm h1 h2 h4, .lst (.inl (.inl upd_same)) (DpAll.mo (same_upd' h1) _ _ h5), same_upd' h1, fun b u e n => ?_, fun _ z => z⟩
    by_cases hb : b = a
    · subst hb; exact .inr ⟨⟨_, rfl⟩, rfl⟩
    · rw [upd_ne hb, n] at e; cases e
  | at_ i =>
    have h : σ[i]? = some (some v) := h
    unfold frz at q
    simp only at q
    split at q
    · rename_i d e
      obtain ⟨v', h1, h2⟩ := R.fz i d e
      rw [h] at h1; cases h1
      exact ⟨d, ds, G, q, R, h2, Same.refl G, fun b o e n => (by rw [n] at e; cases e), fun _ z => z⟩
    · rename_i d e
      obtain ⟨a, G', h1, R', x, hd⟩ := R.firmAt e
      rw [h] at h1; cases h1
      refine ⟨d, _, G', q, R', hd, x.gg, fun b o e' n => ?_, fun b z => ?_⟩
      · rcases x.nw b o e' n with z | z
        · have := R'.sub b o e'
          rw [z] at this; cases this
        · exact .inl z
      · obtain ⟨j, z⟩ := z
        exact ⟨j, (owAt_set (by intro _ z; cases z) z).1⟩
    · exact q.elim
theorem frz_ext {K : PySem.W.Frag} {G : Hp} {ds : DS} {σ : St} {H : Hp} {v : V} {ev : Ev} {DQ : D → DS → Prop} {G1 : Hp} {ds1 : DS} {H1 : Hp} (R : Rel K G1 ds1 σ H1) (x : Ext ds σ G H ds1 σ G1 H1) (h : EvR K G1 ds1 σ H1 v ev) (n : FrN ds σ H v ev) (q : frz ev ds1 DQ) :
    ∃ d ds' G', DQ d ds' ∧ Rel K G' ds' σ H1 ∧ Dp K G' v d ∧ Ext ds σ G H ds' σ G' H1 := by
  obtain ⟨d, ds', G', h1, h2, h3, h4, h5, h6⟩ := frz_ok (H0 := H) (ds0 := ds) R h q
  refine ⟨d, ds', G', h1, h2, h3, x.gg.trans h4, x.fr, fun b o e z => ?_, fun b z => x.ow b (h6 b z)⟩
  cases e1 : G1 b with
  | some u => exact x.nw b u e1 z
  | none =>
    rcases h5 b o e e1 with q | ⟨⟨d', rfl⟩, rfl⟩
    · exact (x.ow b q).symm
    · exact n b rfl
theorem PVE.fz {X : Cx} {e : Expr} {f : DE} (h : PVE X e f) : PVF X e (eFz f) := by
  obtain ⟨t, ht, hs⟩ := h
  refine ⟨t, ht, fun G ds σ H DQ Q R hf k => hs G ds σ H _ Q R hf fun ev ds1 v G1 H1 q R1 x hv n => ?_⟩
  obtain ⟨d, ds', G', h1, h2, h3, h4⟩ := frz_ext R1 x hv n q
  exact k d ds' v G' H1 h1 h2 h4 h3
def eVal (f : DF) : DE := fun ds Q => f ds fun d ds1 => Q (.val d) ds1
theorem PVF.val {X : Cx} {e : Expr} {f : DF} (h : PVF X e f) : PVE X e (eVal f) := by
  obtain ⟨t, ht, hs⟩ := h
  exact ⟨t, ht, fun G ds σ H DQ Q R hf k => hs G ds σ H _ Q R hf fun d ds1 v G1 H1 q R1 x hv => k _ _ _ _ _ q R1 x hv trivial⟩

/-! ### names, constants -/
/-- the slot holds a thing -/
def withSl (ds : DS) (i : Nat) (P : Prop) : Prop := match ds[i]? with
  | some (.fz _) => P
  | some (.ow _) => P
  | _ => False
def eVar (i : Nat) : DE := fun ds Q => withSl ds i (Q (.at_ i) ds)
def eC (d : D) : DE := fun ds Q => Q (.val d) ds
theorem pve_var {X : Cx} (i : Nat) {x : Str} {pos : Pos} (h : PE X (.Name x pos) (tVar i)) : PVE X (.Name x pos) (eVar i) := by
  refine ⟨_, h, fun G ds σ H DQ Q R hf k => ?_⟩
  have h : (∃ v, σ[i]? = some (some v)) ∧ DQ (.at_ i) ds := by
    have hf : withSl ds i (DQ (.at_ i) ds) := hf
    unfold withSl at hf
    split at hf
    · rename_i d e; obtain ⟨v, q, _⟩ := R.fz i d e; exact ⟨⟨v, q⟩, hf⟩
    · rename_i d e; obtain ⟨a, _, q, _⟩ := R.ow i d e; exact ⟨⟨_, q⟩, hf⟩
    · exact hf.elim
  obtain ⟨⟨v, e⟩, h2⟩ := h
  exact ⟨v, e, k _ _ _ _ _ h2 R (Ext.refl ..) e trivial⟩
theorem pve_c {X : Cx} {e : Expr} {v : V} {d : D} (h : PE X e (tC v)) (hd : ∀ H, Dp X.K H v d) : PVE X e (eC d) :=
  ⟨_, h, fun G ds σ H DQ Q R hf k => k _ _ _ _ _ hf R (Ext.refl ..) (hd _) trivial⟩
section
variable {X : Cx} {pos : Pos}
theorem pve_int {i j} : PVE X (.Constant (.int i) j pos) (eC (.int i)) := pve_c pe_int fun _ => .int i
theorem pve_bl {b j} : PVE X (.Constant (.bool b) j pos) (eC (.bool b)) := pve_c pe_bl fun _ => .bl b
theorem pve_non {j} : PVE X (.Constant .none j pos) (eC .none) := pve_c pe_non fun _ => .non
theorem pve_str {x j} : PVE X (.Constant (.str x) j pos) (eC (.str x)) := pve_c pe_str fun _ => .str x
end
/-- a reading that makes first operands firm enough to stay -/
theorem nm_ok {K : PySem.W.Frag} {G : Hp} {ds : DS} {σ : St} {H : Hp} {v : V} {ev : Ev} {G0 : Hp} {ds0 : DS} {H0 : Hp} (R : Rel K G ds σ H) (x : Ext ds0 σ G0 H0 ds σ G H) (h : EvR K G ds σ H v ev) (n : FrN ds0 σ H0 v ev) :
    ∃ G', Rel K G' ds σ H ∧ Ext ds0 σ G0 H0 ds σ G' H ∧ EvR K G' ds σ H v (nm ev) := by
  cases ev with
  | val d => exact ⟨G, R, x, h⟩
  | at_ i => exact ⟨G, R, x, h⟩
  | fresh d =>
    obtain ⟨d', ds', G', h1, h2, h3, h4⟩ := frz_ext (DQ := fun d' ds' => d' = d ∧ ds' = ds) R x h n ⟨rfl, rfl⟩
    obtain ⟨rfl, rfl⟩ := h1
    exact ⟨G', h2, h4, h3⟩
theorem nm_stay {K : PySem.W.Frag} {G : Hp} {ds : DS} {σ : St} {H : Hp} {v : V} {ev : Ev} {G' : Hp} {ds' : DS} {H' : Hp} (x : Same G G') (h : EvR K G ds σ H v (nm ev)) : EvR K G' ds' σ H' v (nm ev) := by
  cases ev with
  | val d => exact Dp.mo x d v h
  | at_ i => exact h
  | fresh d => exact Dp.mo x d v h
end PV
end
section
set_option Elab.async false
set_option linter.all false
set_option maxRecDepth 100000
set_option maxHeartbeats 4000000
namespace L2
open PySem PyProof.Rows
section
variable {X : Cx}
/-- list + list, whatever lists they are -/
theorem op_catL : OpR X (binaryOp .Add) (fun x y H Q => ∃ l b xs zs, x = .ref l ∧ y = .ref b ∧ SqL X.K H l xs ∧ SqL X.K H b zs ∧ xs.length + zs.length ≤ sizeLine ∧ ∀ p, H p = none → Q (.ref p) (upd H p (.lst (xs ++ zs)))) := by
  intro pins s σ H x y v u Q I rx ry h
  obtain ⟨l, b, xs, zs, rfl, rfl, hH, hB, hz, q⟩ := h
  cases rx
  cases ry
  obtain ⟨its, r, p1, z1⟩ := I.list hH
  obtain ⟨its2, r2, p2, z2⟩ := I.list hB
  obtain ⟨⟨cls, dd, data, sl⟩, ho, hc, n, hd⟩ := p1.isList
  obtain ⟨⟨cls2, dd2, data2, sl2⟩, ho2, hc2, n2, hd2⟩ := p2.isList
  simp only at hc hd hc2 hd2
  subst hc hd hc2 hd2
  have e : its.toArray ++ its2.toArray = (its ++ its2).toArray := by simp
  have l1 := r.length
  have l2 := r2.length
  refine concat_meets ⟨_, ho, rfl⟩ ⟨_, ho2, rfl⟩ noFill_list_add seq_list_add PySem.F.slot_list_add PySem.F.entry_list_add (PySem.F.args_list_add_2 _ _) (list_addW l b its.toArray its2.toArray n n2 dd dd2 sl sl2 (by rw [List.size_toArray, List.size_toArray]; omega)) ⟨ho, ho2, ?_⟩
  rw [e]
  exact ⟨.ref _, _, I.lnew (t' := s.toks) (r.append r2) (by rw [List.length_append]; omega), rfl, q _ I.fresh⟩
end
mutual
theorem Dp.plain {K : PySem.W.Frag} {H : Hp} : ∀ (d : PyData) (v : V), Dp K H v d → d.plain = true
  | .none, _, _ => rfl
  | .bool _, _, _ => rfl
  | .int _, _, _ => rfl
  | .str _, _, _ => rfl
  | .list ds, _, h => by
    cases h with
    | lst hs ha => exact DpAll.plain ds _ ha
  | .tuple ds, _, h => by
    cases h with
    | tup hs ha => exact DpAll.plain ds _ ha
  | .dict _, _, h => by cases h
theorem DpAll.plain {K : PySem.W.Frag} {H : Hp} : ∀ (ds : List PyData) (vs : List V), DpAll K H vs ds → PyData.plainAll ds = true
  | [], _, _ => rfl
  | d :: ds, _, h => by
    cases h with
    | cons h1 h2 => rw [PyData.plainAll, DpAll.plain ds _ h2, Dp.plain d _ h1]; rfl
end
section
variable {X : Cx}
/-- == of data -/
theorem op_eqP (hu : X.A.units + 64 < cLine) : OpR X (compareOp .Eq) (fun x y H Q => ∃ d e, Dp X.K H x d ∧ Dp X.K H y e ∧ min d.depth e.depth ≤ 60 ∧ Q (.bl (PyData.eqv d e)) H) := by
  intro pins s σ H x y v u Q I rx ry h
  obtain ⟨d, e, hd, he, hz, q⟩ := h
  obtain ⟨as, r1⟩ := Dp.reads I d x v hd rx
  obtain ⟨bs, r2⟩ := Dp.reads I e y u he ry
  exact SeqAt.eq_plain r1 r2 (Dp.plain d _ hd) (Dp.plain e _ he) (by omega) ⟨.bl _, H, I, rfl, q⟩
theorem op_neP (hu : X.A.units + 64 < cLine) : OpR X (compareOp .NotEq) (fun x y H Q => ∃ d e, Dp X.K H x d ∧ Dp X.K H y e ∧ min d.depth e.depth ≤ 60 ∧ Q (.bl (!PyData.eqv d e)) H) := by
  intro pins s σ H x y v u Q I rx ry h
  obtain ⟨d, e, hd, he, hz, q⟩ := h
  obtain ⟨as, r1⟩ := Dp.reads I d x v hd rx
  obtain ⟨bs, r2⟩ := Dp.reads I e y u he ry
  exact SeqAt.ne_plain r1 r2 (Dp.plain d _ hd) (Dp.plain e _ he) (by omega) ⟨.bl _, H, I, rfl, q⟩
theorem op_inP (hu : X.A.units + 64 < cLine) : OpR X (compareOp .In) (fun x y H Q => ∃ d ds e, Dp X.K H x d ∧ Dp X.K H y e ∧ (e = .list ds ∨ e = .tuple ds) ∧ min (PyData.depthAll ds) d.depth ≤ 60 ∧ Q (.bl (ds.any fun z => PyData.eqv z d)) H) := by
  intro pins s σ H x y v u Q I rx ry h
  obtain ⟨d, ds, e, hd, he, hk, hz, q⟩ := h
  obtain ⟨as, r1⟩ := Dp.reads I d x v hd rx
  obtain ⟨bs, r2⟩ := Dp.reads I e y u he ry
  have pe := Dp.plain e _ he
  rcases hk with rfl | rfl
  · exact SeqAt.in_list_data r2 r1 pe (Dp.plain d _ hd) (by omega) ⟨.bl _, H, I, rfl, q⟩
  · exact SeqAt.in_tuple_data r2 r1 pe (Dp.plain d _ hd) (by omega) ⟨.bl _, H, I, rfl, q⟩
theorem op_notInP (hu : X.A.units + 64 < cLine) : OpR X (compareOp .NotIn) (fun x y H Q => ∃ d ds e, Dp X.K H x d ∧ Dp X.K H y e ∧ (e = .list ds ∨ e = .tuple ds) ∧ min (PyData.depthAll ds) d.depth ≤ 60 ∧ Q (.bl (!ds.any fun z => PyData.eqv z d)) H) := by
  intro pins s σ H x y v u Q I rx ry h
  obtain ⟨d, ds, e, hd, he, hk, hz, q⟩ := h
  obtain ⟨as, r1⟩ := Dp.reads I d x v hd rx
  obtain ⟨bs, r2⟩ := Dp.reads I e y u he ry
  have pe := Dp.plain e _ he
  rcases hk with rfl | rfl
  · exact SeqAt.notIn_list_data r2 r1 pe (Dp.plain d _ hd) (by omega) ⟨.bl _, H, I, rfl, q⟩
  · exact SeqAt.notIn_tuple_data r2 r1 pe (Dp.plain d _ hd) (by omega) ⟨.bl _, H, I, rfl, q⟩
end
end L2

namespace PV
open PySem L2

theorem Ext.back {ds : DS} {σ : St} {G H : Hp} {ds1 : DS} {σ1 : St} {G1 H1 : Hp} (x : Ext ds σ G H ds1 σ1 G1 H1) {v : V} {ev : Ev} (h : FrN ds1 σ1 H1 v ev) : FrN ds σ H v ev := by
  cases ev with
  | fresh d =>
    intro a e
    rcases h a e with q | q
    · exact x.nn q
    · exact (x.ow a q).symm
  | _ => trivial

/-! ### operators -/
abbrev DOp := D → D → (Ev → Prop) → Prop
def OpV (X : Cx) (f : Value → Value → Sem Value) (op : DOp) : Prop := ∃ r : R2, OpR X f r ∧ ∀ (G : Hp) (ds : DS) (σ : St) (H : Hp) (x y : V) (d1 d2 : D) (DQ : Ev → Prop) (Q : VK), Rel X.K G ds σ H → Sh X.K G H x d1 → Sh X.K G H y d2 → op d1 d2 DQ →
  (∀ ev v G' H', DQ ev → Rel X.K G' ds σ H' → Ext ds σ G H ds σ G' H' → EvR X.K G' ds σ H' v ev → FrN ds σ H v ev → Q v H') → r x y H Q
def eOp (op : DOp) (f g : DE) : DE := fun ds Q => f ds fun e1 ds1 => g ds1 fun e2 ds2 => rd (nm e1) ds2 fun d1 => rd e2 ds2 fun d2 => op d1 d2 fun ev => Q ev ds2
/-- both operands, then what is asked of their contents -/
theorem bin_ok {X : Cx} {a b : Expr} {f g : DE} (ha : PVE X a f) (hb : PVE X b g) : ∃ ta tb, PE X a ta ∧ PE X b tb ∧ ∀ (G : Hp) (ds : DS) (σ : St) (H : Hp) (R : D → D → DS → Prop) (S : V → V → Hp → Prop), Rel X.K G ds σ H →
    (f ds fun e1 ds1 => g ds1 fun e2 ds2 => rd (nm e1) ds2 fun d1 => rd e2 ds2 fun d2 => R d1 d2 ds2) →
    (∀ x y d1 d2 ds' G' H', R d1 d2 ds' → Rel X.K G' ds' σ H' → Ext ds σ G H ds' σ G' H' → Sh X.K G' H' x d1 → Sh X.K G' H' y d2 → S x y H') → ta σ H fun x H1 => tb σ H1 fun y H2 => S x y H2 := by
  obtain ⟨ta, h1, s1⟩ := ha
  obtain ⟨tb, h2, s2⟩ := hb
  refine ⟨ta, tb, h1, h2, fun G ds σ H R S RR hf k => s1 G ds σ H _ _ RR hf fun e1 ds1 v1 G1 H1 q1 R1 x1 r1 n1 => ?_⟩
  obtain ⟨G1', R1', x1', r1'⟩ := nm_ok R1 x1 r1 n1
  refine s2 G1' ds1 σ H1 _ _ R1' q1 fun e2 ds2 v2 G2 H2 q2 R2 x2 r2 n2 => ?_
  obtain ⟨d1, sh1, q3⟩ := rd_sh (v := v1) R2 (nm_stay x2.gg r1') q2
  obtain ⟨d2, sh2, q4⟩ := rd_sh R2 r2 q3
  exact k v1 v2 d1 d2 ds2 G2 H2 q4 R2 (x1'.trans x2) sh1 sh2
theorem pve_op {X : Cx} {o : Operator} {op : DOp} {a b : Expr} {f g : DE} {pos : Pos} (ho : OpV X (binaryOp o) op) (ha : PVE X a f) (hb : PVE X b g) : PVE X (.BinOp a o b pos) (eOp op f g) := by
  obtain ⟨r, hr, hs⟩ := ho
  obtain ⟨ta, tb, h1, h2, hk⟩ := bin_ok ha hb
  refine ⟨_, pe_op hr h1 h2, fun G ds σ H DQ Q R hf k => hk G ds σ H _ _ R hf fun x y d1 d2 ds' G' H' q R' x' sx sy => ?_⟩
  exact hs G' ds' σ H' x y d1 d2 _ Q R' sx sy q fun ev v G2 H2 q2 R2 x2 r2 n2 => k ev ds' v G2 H2 q2 R2 (x'.trans x2) r2 (x'.back n2)
theorem pve_cmp {X : Cx} {o : CmpOp} {op : DOp} {a b : Expr} {f g : DE} {pos : Pos} (ho : OpV X (compareOp o) op) (ha : PVE X a f) (hb : PVE X b g) (hm : behindInMarks o b = false) : PVE X (.Compare a [o] [b] pos) (eOp op f g) := by
  obtain ⟨r, hr, hs⟩ := ho
  obtain ⟨ta, tb, h1, h2, hk⟩ := bin_ok ha hb
  refine ⟨_, pe_cmpR hr h1 h2 hm, fun G ds σ H DQ Q R hf k => hk G ds σ H _ _ R hf fun x y d1 d2 ds' G' H' q R' x' sx sy => ?_⟩
  exact hs G' ds' σ H' x y d1 d2 _ Q R' sx sy q fun ev v G2 H2 q2 R2 x2 r2 n2 => k ev ds' v G2 H2 q2 R2 (x'.trans x2) r2 (x'.back n2)
/-- a bool that is given -/
def isB (e : Ev) (Q : Bool → Prop) : Prop := match e with
  | .val (.bool b) => Q b
  | _ => False
def tB (f : DE) : DT := fun ds Q => f ds fun e ds1 => isB e fun b => Q b ds1
theorem isB_v {K : PySem.W.Frag} {G : Hp} {ds : DS} {σ : St} {H : Hp} {v : V} {e : Ev} {Q : Bool → Prop} (h : EvR K G ds σ H v e) (q : isB e Q) : ∃ b, v = .bl b ∧ e = .val (.bool b) ∧ Q b := by
  unfold isB at q
  split at q
  · have h : Dp K G v (.bool _) := h
    cases h
    exact ⟨_, rfl, rfl, q⟩
  · exact q.elim
theorem pvt_cmp {X : Cx} {o : CmpOp} {op : DOp} {a b : Expr} {f g : DE} {pos : Pos} (ho : OpV X (compareOp o) op) (ha : PVE X a f) (hb : PVE X b g) (hm : behindInMarks o b = false) : PVT X (.Compare a [o] [b] pos) (tB (eOp op f g)) := by
  obtain ⟨r, hr, hs⟩ := ho
  obtain ⟨ta, tb, h1, h2, hk⟩ := bin_ok ha hb
  refine ⟨_, pt_cmpR hr h1 h2 hm, fun G ds σ H DQ Q R hf k => hk G ds σ H _ _ R hf fun x y d1 d2 ds' G' H' q R' x' sx sy => ?_⟩
  refine hs G' ds' σ H' x y d1 d2 _ _ R' sx sy q fun ev v G2 H2 q2 R2 x2 r2 n2 => ?_
  obtain ⟨c, e1, e2, q3⟩ := isB_v r2 q2
  exact ⟨c, e1, k c ds' G2 H2 q3 R2 (x'.trans x2)⟩

section
variable {X : Cx}
/-- an operator on ints -/
theorem opv_of {f : Value → Value → Sem Value} {r : R2} {op : DOp} (h : OpR X f r) (hs : ∀ (G : Hp) (ds : DS) (σ : St) (H : Hp) (x y : V) (d1 d2 : D) (DQ : Ev → Prop) (Q : VK), Rel X.K G ds σ H → Sh X.K G H x d1 → Sh X.K G H y d2 → op d1 d2 DQ →
  (∀ ev v G' H', DQ ev → Rel X.K G' ds σ H' → Ext ds σ G H ds σ G' H' → EvR X.K G' ds σ H' v ev → FrN ds σ H v ev → Q v H') → r x y H Q) : OpV X f op := ⟨r, h, hs⟩
def oInt (C : Int → Int → Prop) (g : Int → Int → D) : DOp := fun d1 d2 Q => match d1, d2 with
  | .int a, .int b => C a b ∧ Q (.val (g a b))
  | _, _ => False
theorem opv_int {f : Value → Value → Sem Value} {C : Int → Int → Prop} {g : Int → Int → V} {g' : Int → Int → D} (h : OpR X f (rI C g)) (hg : ∀ a b H, Dp X.K H (g a b) (g' a b)) : OpV X f (oInt C g') := by
  refine ⟨_, h, fun G ds σ H x y d1 d2 DQ Q R sx sy hq k => ?_⟩
  unfold oInt at hq
  split at hq
  · rename_i a b
    exact ⟨a, b, sx.int, sy.int, hq.1, k _ _ _ _ hq.2 R (Ext.refl ..) (hg a b G) trivial⟩
  · exact hq.elim
theorem opr_weak {f : Value → Value → Sem Value} {r r' : R2} (h : OpR X f r) (w : ∀ x y H Q, r' x y H Q → r x y H Q) : OpR X f r' := fun pins s σ H x y v u Q I rx ry q => h pins s σ H x y v u Q I rx ry (w _ _ _ _ q)
def oI0 (g : Int → Int → D) : DOp := fun d1 d2 Q => match d1, d2 with
  | .int a, .int b => Q (.val (g a b))
  | _, _ => False
theorem opv_i0 {f : Value → Value → Sem Value} {g : Int → Int → V} {g' : Int → Int → D} (h : OpR X f (rI0 g)) (hg : ∀ a b H, Dp X.K H (g a b) (g' a b)) : OpV X f (oI0 g') := by
  refine ⟨_, h, fun G ds σ H x y d1 d2 DQ Q R sx sy hq k => ?_⟩
  unfold oI0 at hq
  split at hq
  · rename_i a b
    exact ⟨a, b, sx.int, sy.int, k _ _ _ _ hq R (Ext.refl ..) (hg a b G) trivial⟩
  · exact hq.elim
abbrev oSub : DOp := oI0 fun a b => .int (a - b)
theorem opv_sub : OpV X (binaryOp .Sub) oSub := opv_i0 op_sub fun _ _ _ => .int _
def CMulA (i j : Int) : Prop := (-(2 ^ 64) < i ∧ i < 2 ^ 64) ∨ (-(2 ^ 64) < j ∧ j < 2 ^ 64) ∨ CMulW i j
abbrev oMul : DOp := oInt CMulA fun a b => .int (a * b)
theorem opv_mul : OpV X (binaryOp .Mult) oMul := by
  refine opv_int (g := fun a b => .int (a * b)) (opr_weak (OpR.or op_mul op_mulW) fun x y H Q ⟨i, j, a, b, c, q⟩ => ?_) fun _ _ _ => .int _
  rcases c with c | c | c
  · exact .inl ⟨i, j, a, b, .inl c, q⟩
  · exact .inl ⟨i, j, a, b, .inr c, q⟩
  · exact .inr ⟨i, j, a, b, c, q⟩
abbrev oDiv : DOp := oInt CDivW fun a b => .int (a / b)
theorem opv_div : OpV X (binaryOp .FloorDiv) oDiv := opv_int op_fdivW fun _ _ _ => .int _
abbrev oMod : DOp := oInt (fun _ b => 0 < b) fun a b => .int (a % b)
theorem opv_mod : OpV X (binaryOp .Mod) oMod := opv_int op_mod fun _ _ _ => .int _
abbrev oPow : DOp := oInt CPow fun a b => .int (a ^ b.toNat)
theorem opv_pow : OpV X (binaryOp .Pow) oPow := opv_int op_pow fun _ _ _ => .int _
abbrev oShl : DOp := oInt CPow fun a b => .int (a * 2 ^ b.toNat)
theorem opv_shl : OpV X (binaryOp .LShift) oShl := opv_int op_shl fun _ _ _ => .int _
abbrev oShr : DOp := oInt (fun _ b => 0 ≤ b) fun a b => .int (a / 2 ^ b.toNat)
theorem opv_shr : OpV X (binaryOp .RShift) oShr := opv_int op_shr fun _ _ _ => .int _
abbrev oAnd : DOp := oI0 fun a b => .int (Builtin.bitAnd a b)
theorem opv_and : OpV X (binaryOp .BitAnd) oAnd := opv_i0 op_and fun _ _ _ => .int _
abbrev oOr : DOp := oI0 fun a b => .int (Builtin.bitOr a b)
theorem opv_or : OpV X (binaryOp .BitOr) oOr := opv_i0 op_or fun _ _ _ => .int _
abbrev oLt : DOp := oI0 fun a b => .bool (decide (a < b))
theorem opv_lt : OpV X (compareOp .Lt) oLt := opv_i0 op_lt fun _ _ _ => .bl _
abbrev oLe : DOp := oI0 fun a b => .bool (decide (a ≤ b))
theorem opv_le : OpV X (compareOp .LtE) oLe := opv_i0 op_le fun _ _ _ => .bl _
abbrev oGt : DOp := oI0 fun a b => .bool (decide (b < a))
theorem opv_gt : OpV X (compareOp .Gt) oGt := opv_i0 op_gt fun _ _ _ => .bl _
abbrev oGe : DOp := oI0 fun a b => .bool (decide (b ≤ a))
theorem opv_ge : OpV X (compareOp .GtE) oGe := opv_i0 op_ge fun _ _ _ => .bl _
@[irreducible] def oEq : DOp := fun d1 d2 Q => min d1.depth d2.depth ≤ 60 ∧ Q (.val (.bool (PyData.eqv d1 d2)))
@[irreducible] def oNe : DOp := fun d1 d2 Q => min d1.depth d2.depth ≤ 60 ∧ Q (.val (.bool (!PyData.eqv d1 d2)))
theorem opv_eq (hu : X.A.units + 64 < cLine) : OpV X (compareOp .Eq) oEq :=
  ⟨_, op_eqP hu, fun G ds σ H x y d1 d2 DQ Q R sx sy hq k => by
    unfold oEq at hq
    exact ⟨d1, d2, sx.dp R.sub, sy.dp R.sub, hq.1, k _ _ _ _ hq.2 R (Ext.refl ..) (.bl _) trivial⟩⟩
theorem opv_ne (hu : X.A.units + 64 < cLine) : OpV X (compareOp .NotEq) oNe :=
  ⟨_, op_neP hu, fun G ds σ H x y d1 d2 DQ Q R sx sy hq k => by
    unfold oNe at hq
    exact ⟨d1, d2, sx.dp R.sub, sy.dp R.sub, hq.1, k _ _ _ _ hq.2 R (Ext.refl ..) (.bl _) trivial⟩⟩
def itemsD (d : D) (Q : List D → Prop) : Prop := match d with
  | .list ds => Q ds
  | .tuple ds => Q ds
  | _ => False
theorem itemsD_e {d : D} {Q : List D → Prop} (h : itemsD d Q) : ∃ ds, (d = .list ds ∨ d = .tuple ds) ∧ Q ds := by
  unfold itemsD at h
  split at h
  · exact ⟨_, .inl rfl, h⟩
  · exact ⟨_, .inr rfl, h⟩
  · exact h.elim
@[irreducible] def oIn : DOp := fun d1 d2 Q => itemsD d2 fun ds => min (PyData.depthAll ds) d1.depth ≤ 60 ∧ Q (.val (.bool (ds.any fun z => PyData.eqv z d1)))
@[irreducible] def oNotIn : DOp := fun d1 d2 Q => itemsD d2 fun ds => min (PyData.depthAll ds) d1.depth ≤ 60 ∧ Q (.val (.bool (!ds.any fun z => PyData.eqv z d1)))
theorem opv_in (hu : X.A.units + 64 < cLine) : OpV X (compareOp .In) oIn :=
  ⟨_, op_inP hu, fun G ds σ H x y d1 d2 DQ Q R sx sy hq k => by
    unfold oIn at hq
    obtain ⟨es, he, h1, h2⟩ := itemsD_e hq
    exact ⟨d1, es, d2, sx.dp R.sub, sy.dp R.sub, he, h1, k _ _ _ _ h2 R (Ext.refl ..) (.bl _) trivial⟩⟩
theorem opv_notIn (hu : X.A.units + 64 < cLine) : OpV X (compareOp .NotIn) oNotIn :=
  ⟨_, op_notInP hu, fun G ds σ H x y d1 d2 DQ Q R sx sy hq k => by
    unfold oNotIn at hq
    obtain ⟨es, he, h1, h2⟩ := itemsD_e hq
    exact ⟨d1, es, d2, sx.dp R.sub, sy.dp R.sub, he, h1, k _ _ _ _ h2 R (Ext.refl ..) (.bl _) trivial⟩⟩
def isN : D → Bool
  | .none => true
  | _ => false
theorem sh_isN {K : PySem.W.Frag} {G H : Hp} {v : V} {d : D} (h : Sh K G H v d) : decide (v = .non) = isN d := by
  rcases h with h | ⟨a, o, rfl, _, q⟩
  · cases h <;> rfl
  · cases o <;> cases d <;> first | exact False.elim q | rfl
def oIs : DOp := fun d1 d2 Q => isN d2 = true ∧ Q (.val (.bool (isN d1)))
def oIsNot : DOp := fun d1 d2 Q => isN d2 = true ∧ Q (.val (.bool (!isN d1)))
theorem isN_e {d : D} (h : isN d = true) : d = .none := by cases d <;> first | rfl | cases h
theorem opv_is : OpV X (compareOp .Is) oIs :=
  ⟨_, op_isN, fun G ds σ H x y d1 d2 DQ Q R sx sy hq k => by
    obtain ⟨h1, h2⟩ := hq
    have e := isN_e h1
    subst e
    refine ⟨sy.non, ?_⟩
    rw [sh_isN sx]
    exact k _ _ _ _ h2 R (Ext.refl ..) (.bl _) trivial⟩
theorem opv_isNot : OpV X (compareOp .IsNot) oIsNot :=
  ⟨_, op_notN, fun G ds σ H x y d1 d2 DQ Q R sx sy hq k => by
    obtain ⟨h1, h2⟩ := hq
    have e := isN_e h1
    subst e
    refine ⟨sy.non, ?_⟩
    rw [sh_isN sx]
    exact k _ _ _ _ h2 R (Ext.refl ..) (.bl _) trivial⟩

/-- a new list, a new tuple -/
theorem new_list {K : PySem.W.Frag} {G : Hp} {ds : DS} {σ : St} {H : Hp} (R : Rel K G ds σ H) {vs : List V} {es : List D} (h : DpAll K G vs es) {p : Addr} (n : H p = none) :
    Rel K G ds σ (upd H p (.lst vs)) ∧ Ext ds σ G H ds σ G (upd H p (.lst vs)) ∧ EvR K G ds σ (upd H p (.lst vs)) (.ref p) (.fresh (.list es)) ∧ FrN ds σ H (.ref p) (.fresh (.list es)) :=
  ⟨R.updO n, Ext.updO n, ⟨p, _, rfl, R.gnone n, upd_same, h, R.nOwn n⟩, fun a e => by cases e; exact .inl n⟩
theorem new_tup {K : PySem.W.Frag} {G : Hp} {ds : DS} {σ : St} {H : Hp} (R : Rel K G ds σ H) {vs : List V} {es : List D} (h : DpAll K G vs es) {p : Addr} (n : H p = none) :
    Rel K (upd G p (.tup vs)) ds σ (upd H p (.tup vs)) ∧ Ext ds σ G H ds σ (upd G p (.tup vs)) (upd H p (.tup vs)) ∧ Dp K (upd G p (.tup vs)) (.ref p) (.tuple es) :=
  ⟨(R.newF n).1, (R.newF n).2, .tup (.inl (.inl upd_same)) (DpAll.mo (same_upd' (R.gnone n)) _ _ h)⟩
/-- a tuple that is read stands firm -/
theorem sh_tupD {K : PySem.W.Frag} {G H : Hp} {v : V} {ds : List D} (h : Sh K G H v (.tuple ds)) : Dp K G v (.tuple ds) := by
  rcases h with h | ⟨a, o, rfl, _, q⟩
  · exact h
  · cases o <;> exact False.elim q
def oAdd : DOp := fun d1 d2 Q => match d1, d2 with
  | .int a, .int b => Q (.val (.int (a + b)))
  | .list a, .list b => a.length + b.length ≤ 16777216 ∧ Q (.fresh (.list (a ++ b)))
  | .tuple a, .tuple b => a.length + b.length ≤ 16777216 ∧ Q (.val (.tuple (a ++ b)))
  | .str a, .str b => a.length + b.length ≤ 16777216 ∧ Q (.val (.str (a ++ b)))
  | _, _ => False
theorem opv_add : OpV X (binaryOp .Add) oAdd := by
  have zl : sizeLine = 16777216 := sizeLine_eq
  refine ⟨_, OpR.or op_add (OpR.or op_catL (OpR.or op_catA op_add_str)), fun G ds σ H x y d1 d2 DQ Q R sx sy hq k => ?_⟩
  unfold oAdd at hq
  split at hq
  · exact .inl ⟨_, _, sx.int, sy.int, k _ _ _ _ hq R (Ext.refl ..) (.int _) trivial⟩
  · obtain ⟨a, vs, rfl, q1, q2⟩ := sx.list R.sub
    obtain ⟨b, ws, rfl, q3, q4⟩ := sy.list R.sub
    refine .inr (.inl ⟨a, b, vs, ws, rfl, rfl, q1, q3, by rw [q2.len, q4.len]; omega, fun p hp => ?_⟩)
    obtain ⟨h1, h2, h3, h4⟩ := new_list R (q2.app q4) hp
    exact k _ _ _ _ hq.2 h1 h2 h3 h4
  · obtain ⟨a, vs, rfl, q1, q2⟩ := sx.tuple R.sub
    obtain ⟨b, ws, rfl, q3, q4⟩ := sy.tuple R.sub
    refine .inr (.inr (.inl ⟨a, b, vs, ws, rfl, rfl, q1, q3, by rw [q2.len, q4.len]; omega, fun e => ?_, fun e1 e2 => ?_, fun e1 e2 p hp => ?_⟩))
    · subst e
      cases q2
      exact k _ _ _ _ hq.2 R (Ext.refl ..) (sh_tupD sy) trivial
    · subst e2
      cases q4
      have h2 := hq.2
      rw [List.append_nil] at h2
      exact k _ _ _ _ h2 R (Ext.refl ..) (sh_tupD sx) trivial
    · obtain ⟨h1, h2, h3⟩ := new_tup R (q2.app q4) hp
      exact k _ _ _ _ hq.2 h1 h2 h3 trivial
  · exact .inr (.inr (.inr ⟨_, _, sx.str, sy.str, by omega, k _ _ _ _ hq.2 R (Ext.refl ..) (.str _) trivial⟩))
  · exact hq.elim
end
end PV
end
section
set_option Elab.async false
set_option linter.all false
set_option maxRecDepth 100000
set_option maxHeartbeats 4000000
namespace PV
open PySem L2
section
variable {X : Cx} {pos : Pos}
/-! ### truth -/
def tru (d : D) (Q : Bool → Prop) : Prop := match d with
  | .none => Q false
  | .bool b => Q b
  | .int i => Q (i != 0)
  | .str s => s.length ≤ 16777216 ∧ Q ((s.length : Int) != 0)
  | .list l => Q (!l.isEmpty)
  | .tuple l => Q (!l.isEmpty)
  | .dict _ => False
theorem empty_dp {K : PySem.W.Frag} {G : Hp} {vs : List V} {ds : List D} (h : DpAll K G vs ds) : vs.isEmpty = ds.isEmpty := by cases h <;> rfl
theorem tru_v {K : PySem.W.Frag} {G H : Hp} {v : V} {d : D} {Q : Bool → Prop} (s : Same G H) (h : Sh K G H v d) (q : tru d Q) : ∃ k, TruV K v H k ∧ Q k := by
  have zl : sizeLine = 16777216 := sizeLine_eq
  cases d with
  | none => rw [h.non]; exact ⟨false, rfl, q⟩
  | bool b => rw [h.bool]; exact ⟨b, rfl, q⟩
  | int i => rw [h.int]; exact ⟨_, rfl, q⟩
  | str x => rw [h.str]; exact ⟨_, ⟨by have := q.1; omega, rfl⟩, q.2⟩
  | list l =>
    obtain ⟨a, vs, rfl, h1, h2⟩ := h.list s
    exact ⟨_, .inl ⟨vs, h1, rfl⟩, by rw [empty_dp h2]; exact q⟩
  | tuple l =>
    obtain ⟨a, vs, rfl, h1, h2⟩ := h.tuple s
    exact ⟨_, .inr (.inl ⟨vs, h1, rfl⟩), by rw [empty_dp h2]; exact q⟩
  | dict _ => exact q.elim
def tTr (f : DE) : DT := fun ds Q => f ds fun e ds1 => rd e ds1 fun d => tru d fun b => Q b ds1
theorem pvt_tr {a : Expr} {f : DE} (ha : PVE X a f) (he : ∀ whole, isTrue a X.env whole = (do let v ← whole; standAt a.pos; holding [v] (truthy v)) := by intro _; rfl) : PVT X a (tTr f) := by
  obtain ⟨t, ht, hs⟩ := ha
  refine ⟨_, pt_truth ht he, fun G ds σ H DQ Q R hf k => hs G ds σ H _ _ R hf fun ev ds1 v G1 H1 q R1 x1 r1 n1 => ?_⟩
  obtain ⟨d, sh, q2⟩ := rd_sh R1 r1 q
  obtain ⟨b, h1, h2⟩ := tru_v R1.sub sh q2
  exact ⟨b, h1, k _ _ _ _ h2 R1 x1⟩
/-! ### and, or, not -/
def PVW (X : Cx) (e : Expr) (f : DT) : Prop := ∃ t, PW X e t ∧ ∀ (G : Hp) (ds : DS) (σ : St) (H : Hp) (DQ : Bool → DS → Prop) (Q : Bool → Hp → Prop), Rel X.K G ds σ H → f ds DQ →
  (∀ b ds' G' H', DQ b ds' → Rel X.K G' ds' σ H' → Ext ds σ G H ds' σ G' H' → Q b H') → t σ H Q
theorem PVW.t {e : Expr} {f : DT} (h : PVW X e f) : PVT X e f := by
  obtain ⟨t, h1, h2⟩ := h
  exact ⟨t, h1.pt, h2⟩
def tAnd (f g : DT) : DT := fun ds Q => f ds fun b ds1 => br b (g ds1 Q) (Q false ds1)
def tOr (f g : DT) : DT := fun ds Q => f ds fun b ds1 => br b (Q true ds1) (g ds1 Q)
def tNot (f : DT) : DT := fun ds Q => f ds fun b ds1 => Q (!b) ds1
variable {a b : Expr} {rest : List Expr} {f g : DT}
theorem pvw_and1 (ha : PVT X a f) : PVW X (.BoolOp .And [a] pos) f := by
  obtain ⟨t, h1, h2⟩ := ha
  exact ⟨t, pw_and1 h1, h2⟩
theorem pvw_or1 (ha : PVT X a f) : PVW X (.BoolOp .Or [a] pos) f := by
  obtain ⟨t, h1, h2⟩ := ha
  exact ⟨t, pw_or1 h1, h2⟩
theorem pvw_and (ha : PVT X a f) (hb : PVW X (.BoolOp .And (b :: rest) pos) g) : PVW X (.BoolOp .And (a :: b :: rest) pos) (tAnd f g) := by
  obtain ⟨t, h1, h2⟩ := ha
  obtain ⟨u, g1, g2⟩ := hb
  refine ⟨_, pw_and h1 g1, fun G ds σ H DQ Q R hf k => h2 G ds σ H _ _ R hf fun c ds1 G1 H1 q R1 x1 => ?_⟩
  cases c with
  | true => exact g2 G1 ds1 σ H1 _ _ R1 q fun d ds2 G2 H2 q2 R2 x2 => k _ _ _ _ q2 R2 (x1.trans x2)
  | false => exact k _ _ _ _ q R1 x1
theorem pvw_or (ha : PVT X a f) (hb : PVW X (.BoolOp .Or (b :: rest) pos) g) : PVW X (.BoolOp .Or (a :: b :: rest) pos) (tOr f g) := by
  obtain ⟨t, h1, h2⟩ := ha
  obtain ⟨u, g1, g2⟩ := hb
  refine ⟨_, pw_or h1 g1, fun G ds σ H DQ Q R hf k => h2 G ds σ H _ _ R hf fun c ds1 G1 H1 q R1 x1 => ?_⟩
  cases c with
  | false => exact g2 G1 ds1 σ H1 _ _ R1 q fun d ds2 G2 H2 q2 R2 x2 => k _ _ _ _ q2 R2 (x1.trans x2)
  | true => exact k _ _ _ _ q R1 x1
theorem pvt_not (ha : PVT X a f) : PVT X (.UnaryOp .Not a pos) (tNot f) := by
  obtain ⟨t, h1, h2⟩ := ha
  exact ⟨_, pt_not h1, fun G ds σ H DQ Q R hf k => h2 G ds σ H _ _ R hf fun c ds1 G1 H1 q R1 x1 => k _ _ _ _ q R1 x1⟩
/-- as values: bools -/
def eAnd (f g : DE) : DE := fun ds Q => f ds fun e ds1 => isB e fun b => br b (g ds1 Q) (Q (.val (.bool false)) ds1)
def eOr (f g : DE) : DE := fun ds Q => f ds fun e ds1 => isB e fun b => br b (Q (.val (.bool true)) ds1) (g ds1 Q)
def eNot (f : DE) : DE := fun ds Q => f ds fun e ds1 => isB e fun b => Q (.val (.bool (!b))) ds1
variable {fe ge : DE}
theorem pve_one {op} (h : PVE X a fe) : PVE X (.BoolOp op [a] pos) fe := by
  obtain ⟨t, h1, h2⟩ := h
  exact ⟨t, pe_one h1, h2⟩
theorem pve_and (ha : PVE X a fe) (hb : PVE X (.BoolOp .And (b :: rest) pos) ge) : PVE X (.BoolOp .And (a :: b :: rest) pos) (eAnd fe ge) := by
  obtain ⟨t, h1, h2⟩ := ha
  obtain ⟨u, g1, g2⟩ := hb
  refine ⟨_, pe_and h1 g1, fun G ds σ H DQ Q R hf k => h2 G ds σ H _ _ R hf fun ev ds1 v G1 H1 q R1 x1 r1 n1 => ?_⟩
  obtain ⟨c, e1, e2, q2⟩ := isB_v r1 q
  refine ⟨c, e1, ?_⟩
  cases c with
  | true => exact g2 G1 ds1 σ H1 _ _ R1 q2 fun ev ds2 v G2 H2 q2 R2 x2 r2 n2 => k _ _ _ _ _ q2 R2 (x1.trans x2) r2 (x1.back n2)
  | false => exact k _ _ _ _ _ q2 R1 x1 (.bl _) trivial
theorem pve_or (ha : PVE X a fe) (hb : PVE X (.BoolOp .Or (b :: rest) pos) ge) : PVE X (.BoolOp .Or (a :: b :: rest) pos) (eOr fe ge) := by
  obtain ⟨t, h1, h2⟩ := ha
  obtain ⟨u, g1, g2⟩ := hb
  refine ⟨_, pe_or h1 g1, fun G ds σ H DQ Q R hf k => h2 G ds σ H _ _ R hf fun ev ds1 v G1 H1 q R1 x1 r1 n1 => ?_⟩
  obtain ⟨c, e1, e2, q2⟩ := isB_v r1 q
  refine ⟨c, e1, ?_⟩
  cases c with
  | false => exact g2 G1 ds1 σ H1 _ _ R1 q2 fun ev ds2 v G2 H2 q2 R2 x2 r2 n2 => k _ _ _ _ _ q2 R2 (x1.trans x2) r2 (x1.back n2)
  | true => exact k _ _ _ _ _ q2 R1 x1 (.bl _) trivial
theorem pve_not (ha : PVE X a fe) : PVE X (.UnaryOp .Not a pos) (eNot fe) := by
  obtain ⟨t, h1, h2⟩ := ha
  refine ⟨_, pe_not h1, fun G ds σ H DQ Q R hf k => h2 G ds σ H _ _ R hf fun ev ds1 v G1 H1 q R1 x1 r1 n1 => ?_⟩
  obtain ⟨c, e1, e2, q2⟩ := isB_v r1 q
  exact ⟨c, e1, k _ _ _ _ _ q2 R1 x1 (.bl _) trivial⟩
def eIf (t : DT) (f g : DE) : DE := fun ds Q => t ds fun b ds1 => br b (f ds1 Q) (g ds1 Q)
theorem pve_if {c : Expr} {tc : DT} (hc : PVT X c tc) (ha : PVE X a fe) (hb : PVE X b ge) : PVE X (.IfExp c a b pos) (eIf tc fe ge) := by
  obtain ⟨t, h1, h2⟩ := hc
  obtain ⟨u, g1, g2⟩ := ha
  obtain ⟨w, k1, k2⟩ := hb
  refine ⟨_, pe_ifExp h1 g1 k1, fun G ds σ H DQ Q R hf k => h2 G ds σ H _ _ R hf fun c ds1 G1 H1 q R1 x1 => ?_⟩
  cases c with
  | true => exact g2 G1 ds1 σ H1 _ _ R1 q fun ev ds2 v G2 H2 q2 R2 x2 r2 n2 => k _ _ _ _ _ q2 R2 (x1.trans x2) r2 (x1.back n2)
  | false => exact k2 G1 ds1 σ H1 _ _ R1 q fun ev ds2 v G2 H2 q2 R2 x2 r2 n2 => k _ _ _ _ _ q2 R2 (x1.trans x2) r2 (x1.back n2)
/-- a test that is an if expression's, a name's, a call's value goes by truth; - e -/
def eNeg (f : DE) : DE := fun ds Q => f ds fun e ds1 => rd e ds1 fun d => match d with
  | .int i => Q (.val (.int (-i))) ds1
  | _ => False
theorem pve_neg (ha : PVE X a fe) : PVE X (.UnaryOp .USub a pos) (eNeg fe) := by
  obtain ⟨t, h1, h2⟩ := ha
  refine ⟨_, pe_un un_neg h1, fun G ds σ H DQ Q R hf k => h2 G ds σ H _ _ R hf fun ev ds1 v G1 H1 q R1 x1 r1 n1 => ?_⟩
  obtain ⟨d, sh, q2⟩ := rd_sh R1 r1 q
  split at q2
  · exact ⟨_, sh.int, k _ _ _ _ _ q2 R1 x1 (.int _) trivial⟩
  · exact q2.elim

/-! ### places -/
def atD {α : Type} (xs : List α) (i : Int) (Q : α → Prop) : Prop := match atI xs i with
  | some d => Q d
  | none => False
def oIx : DOp := fun d1 d2 Q => match d1, d2 with
  | .list l, .int i => atD l i fun d => Q (.val d)
  | .tuple l, .int i => atD l i fun d => Q (.val d)
  | .str s, .int i => s.length ≤ 16777216 ∧ atD s.cps.toList i fun c => Q (.val (.str ⟨#[c]⟩))
  | _, _ => False
theorem atD_v {K : PySem.W.Frag} {G : Hp} {vs : List V} {ds : List D} (h : DpAll K G vs ds) {i : Int} {Q : D → Prop} (q : atD ds i Q) : ∃ v d, atI vs i = some v ∧ Dp K G v d ∧ Q d := by
  unfold atD at q
  split at q
  · rename_i d e
    unfold atI at e ⊢
    rw [h.len]
    cases e1 : ixN ds.length i with
    | none => rw [e1] at e; cases e
    | some j =>
      rw [e1] at e
      obtain ⟨v, h1, h2⟩ := h.get (show ds[j]? = some d from e)
      exact ⟨v, d, h1, h2, q⟩
  · exact q.elim
def eIx (f g : DE) : DE := eOp oIx f g
theorem pve_ix {a b : Expr} {fe ge : DE} (ha : PVE X a fe) (hb : PVE X b ge) (hs : PlainIx b := by intro _ _; rfl) : PVE X (.Subscript a b pos) (eIx fe ge) := by
  have zl : sizeLine = 16777216 := sizeLine_eq
  obtain ⟨ta, tb, h1, h2, hk⟩ := bin_ok ha hb
  refine ⟨_, pe_ix ix_seq h1 h2 hs, fun G ds σ H DQ Q R hf k => hk G ds σ H _ _ R hf fun x y d1 d2 ds' G' H' q R' x' sx sy => ?_⟩
  unfold oIx at q
  split at q
  · obtain ⟨a, vs, rfl, q1, q2⟩ := sx.list R'.sub
    obtain ⟨v, d, e1, e2, q3⟩ := atD_v q2 q
    exact .inl ⟨a, vs, _, v, rfl, sy.int, q1, e1, k _ _ _ _ _ q3 R' x' e2 trivial⟩
  · obtain ⟨a, vs, rfl, q1, q2⟩ := sx.tuple R'.sub
    obtain ⟨v, d, e1, e2, q3⟩ := atD_v q2 q
    exact .inr (.inl ⟨a, vs, _, v, rfl, sy.int, q1, e1, k _ _ _ _ _ q3 R' x' e2 trivial⟩)
  · obtain ⟨q1, q2⟩ := q
    unfold atD at q2
    split at q2
    · rename_i c e
      exact .inr (.inr ⟨_, _, c, sx.str, sy.int, by omega, e, k _ _ _ _ _ q2 R' x' (.str _) trivial⟩)
    · exact q2.elim
  · exact q.elim
/-! ### slices -/
def cutG {α : Type} (xs : List α) (lo hi : Option Int) : List α := (xs.drop (HT.sIx xs.length 0 lo)).take (HT.sIx xs.length xs.length hi - HT.sIx xs.length 0 lo)
abbrev DO := DS → (Option Int → DS → Prop) → Prop
def PVO (X : Cx) (e : Option Expr) (f : DO) : Prop := ∃ t, PO X e t ∧ ∀ (G : Hp) (ds : DS) (σ : St) (H : Hp) (DQ : Option Int → DS → Prop) (Q : Option Int → Hp → Prop), Rel X.K G ds σ H → f ds DQ →
  (∀ b ds' G' H', DQ b ds' → Rel X.K G' ds' σ H' → Ext ds σ G H ds' σ G' H' → Q b H') → t σ H Q
def pNo : DO := fun ds Q => Q none ds
def pSome (f : DE) : DO := fun ds Q => f ds fun e ds1 => rd e ds1 fun d => match d with
  | .int i => Q (some i) ds1
  | _ => False
theorem pvo_none : PVO X none pNo := ⟨_, po_none, fun G ds σ H DQ Q R hf k => k _ _ _ _ hf R (Ext.refl ..)⟩
theorem pvo_some {e : Expr} {f : DE} (h : PVE X e f) : PVO X (some e) (pSome f) := by
  obtain ⟨t, h1, h2⟩ := h
  refine ⟨_, po_some h1, fun G ds σ H DQ Q R hf k => h2 G ds σ H _ _ R hf fun ev ds1 v G1 H1 q R1 x1 r1 n1 => ?_⟩
  obtain ⟨d, sh, q2⟩ := rd_sh R1 r1 q
  split at q2
  · exact ⟨_, sh.int, k _ _ _ _ q2 R1 x1⟩
  · exact q2.elim
def oSl (d : D) (lo hi : Option Int) (Q : Ev → Prop) : Prop := match d with
  | .list l => Q (.fresh (.list (cutG l lo hi)))
  | .tuple l => Q (.val (.tuple (cutG l lo hi)))
  | .str s => s.length ≤ 16777216 ∧ Q (.val (.str (cutS s lo hi)))
  | _ => False
def eSl (f : DE) (lo hi : DO) : DE := fun ds Q => f ds fun e ds1 => lo ds1 fun l ds2 => hi ds2 fun h ds3 => rd (nm e) ds3 fun d => oSl d l h fun ev => Q ev ds3
theorem pve_sl {e : Expr} {lo hi : Option Expr} {f : DE} {l h : DO} {p2 : Pos} (he : PVE X e f) (hl : PVO X lo l) (hh : PVO X hi h) : PVE X (.Subscript e (.Slice lo hi none p2) pos) (eSl f l h) := by
  have zl : sizeLine = 16777216 := sizeLine_eq
  obtain ⟨t, h1, h2⟩ := he
  obtain ⟨u, g1, g2⟩ := hl
  obtain ⟨w, k1, k2⟩ := hh
  refine ⟨_, pe_slice (SlR.or sl_list (SlR.or sl_tupA sl_str)) h1 g1 k1, fun G ds σ H DQ Q R hf k => h2 G ds σ H _ _ R hf fun e1 ds1 v1 G1 H1 q1 R1 x1 r1 n1 => ?_⟩
  obtain ⟨G1', R1', x1', r1'⟩ := nm_ok R1 x1 r1 n1
  refine g2 G1' ds1 σ H1 _ _ R1' q1 fun lo' ds2 G2 H2 q2 R2 x2 => k2 G2 ds2 σ H2 _ _ R2 q2 fun hi' ds3 G3 H3 q3 R3 x3 => ?_
  obtain ⟨d, sh, q4⟩ := rd_sh (v := v1) R3 (nm_stay (x2.gg.trans x3.gg) r1') q3
  have xx := x1'.trans (x2.trans x3)
  unfold oSl at q4
  split at q4
  · rename_i l0
    obtain ⟨a, vs, rfl, q5, q6⟩ := sh.list R3.sub
    refine .inl ⟨a, vs, rfl, q5, fun p hp => ?_⟩
    have q7 : DpAll X.K G3 (cutV vs lo' hi') (cutG l0 lo' hi') := by
      unfold cutV cutG
      rw [q6.len]
      exact DpAll.take _ (DpAll.drop _ q6)
    obtain ⟨z1, z2, z3, z4⟩ := new_list R3 q7 hp
    exact k _ _ _ _ _ q4 z1 (xx.trans z2) z3 (xx.back z4)
  · rename_i l0
    obtain ⟨a, vs, rfl, q5, q6⟩ := sh.tuple R3.sub
    refine .inr (.inl ⟨a, vs, rfl, q5, fun e => ?_, fun e p hp => ?_⟩)
    · have q7 : cutG l0 lo' hi' = l0 := by
        unfold cutG
        rw [← q6.len, e.1, e.2, List.drop_zero, Nat.sub_zero, q6.len]
        exact List.take_length
      rw [q7] at q4
      exact k _ _ _ _ _ q4 R3 xx (sh_tupD sh) trivial
    · have q7 : DpAll X.K G3 (cutV vs lo' hi') (cutG l0 lo' hi') := by
        unfold cutV cutG
        rw [q6.len]
        exact DpAll.take _ (DpAll.drop _ q6)
      obtain ⟨z1, z2, z3⟩ := new_tup R3 q7 hp
      exact k _ _ _ _ _ q4 z1 (xx.trans z2) z3 trivial
  · exact .inr (.inr ⟨_, sh.str, by omega, k _ _ _ _ _ q4.2 R3 xx (.str _) trivial⟩)
  · exact q4.elim

/-! ### argument lists -/
abbrev DA := DS → (List Ev → DS → Prop) → Prop
/-- every one kept across the others -/
def EvsR (K : PySem.W.Frag) (G : Hp) (ds : DS) (σ : St) (H : Hp) : List V → List Ev → Prop := Paired fun v e => EvR K G ds σ H v e ∧ nm e = e
def PVA (X : Cx) (es : List Expr) (f : DA) : Prop := ∃ t, PA X es t ∧ ∀ (G : Hp) (ds : DS) (σ : St) (H : Hp) (DQ : List Ev → DS → Prop) (Q : List V → Hp → Prop), Rel X.K G ds σ H → f ds DQ →
  (∀ evs ds' vs G' H', DQ evs ds' → Rel X.K G' ds' σ H' → Ext ds σ G H ds' σ G' H' → EvsR X.K G' ds' σ H' vs evs → Q vs H') → t σ H Q
def aNil : DA := fun ds Q => Q [] ds
def aCons (f : DE) (g : DA) : DA := fun ds Q => f ds fun e ds1 => g ds1 fun es ds2 => Q (nm e :: es) ds2
theorem pva_nil : PVA X [] aNil := ⟨_, pa_nil, fun G ds σ H DQ Q R hf k => k _ _ _ _ _ hf R (Ext.refl ..) .nil⟩
theorem nm_nm (e : Ev) : nm (nm e) = nm e := by cases e <;> rfl
theorem pva_cons {e : Expr} {es : List Expr} {f : DE} {g : DA} (he : PVE X e f) (hr : PVA X es g) (hs : starEach (e :: es) X.env = (false, eval e X.env) :: starEach es X.env := by rfl) : PVA X (e :: es) (aCons f g) := by
  obtain ⟨t, h1, h2⟩ := he
  obtain ⟨u, g1, g2⟩ := hr
  refine ⟨_, pa_cons h1 g1 hs, fun G ds σ H DQ Q R hf k => h2 G ds σ H _ _ R hf fun e1 ds1 v1 G1 H1 q1 R1 x1 r1 n1 => ?_⟩
  obtain ⟨G1', R1', x1', r1'⟩ := nm_ok R1 x1 r1 n1
  refine g2 G1' ds1 σ H1 _ _ R1' q1 fun es ds2 vs G2 H2 q2 R2 x2 r2 => ?_
  exact k _ _ _ _ _ q2 R2 (x1'.trans x2) (.cons ⟨nm_stay x2.gg r1', nm_nm _⟩ r2)
def rdAll : List Ev → DS → (List D → Prop) → Prop
  | [], _, Q => Q []
  | e :: es, ds, Q => rd e ds fun d => rdAll es ds fun r => Q (d :: r)
def ShAll (K : PySem.W.Frag) (G H : Hp) : List V → List D → Prop := Paired fun v d => Sh K G H v d
theorem rdAll_sh {K : PySem.W.Frag} {G : Hp} {ds : DS} {σ : St} {H : Hp} (R : Rel K G ds σ H) : ∀ {vs : List V} {es : List Ev} {Q : List D → Prop}, EvsR K G ds σ H vs es → rdAll es ds Q → ∃ xs, ShAll K G H vs xs ∧ Q xs
  | _, _, _, .nil, q => ⟨[], .nil, q⟩
  | _, _, _, .cons h t, q => by
    obtain ⟨d, s1, q1⟩ := rd_sh R h.1 q
    obtain ⟨xs, s2, q2⟩ := rdAll_sh R t q1
    exact ⟨d :: xs, .cons s1 s2, q2⟩
/-- all made firm, for a display -/
def frzAll : List Ev → DS → (List D → DS → Prop) → Prop
  | [], ds, Q => Q [] ds
  | e :: es, ds, Q => frz e ds fun d ds1 => frzAll es ds1 fun r ds2 => Q (d :: r) ds2
theorem nm_FrN {ds : DS} {σ : St} {H : Hp} {v : V} {e : Ev} (h : nm e = e) : FrN ds σ H v e := by
  cases e with
  | fresh d => cases h
  | _ => trivial
theorem EvsR.mo {K : PySem.W.Frag} {G : Hp} {ds : DS} {σ : St} {H : Hp} {G' : Hp} {ds' : DS} {H' : Hp} (x : Same G G') : ∀ {vs : List V} {es : List Ev}, EvsR K G ds σ H vs es → EvsR K G' ds' σ H' vs es
  | _, _, .nil => .nil
  | _, _, .cons h t => .cons ⟨by rw [← h.2]; exact nm_stay x (by rw [h.2]; exact h.1), h.2⟩ (EvsR.mo x t)
theorem frzAll_ok {K : PySem.W.Frag} {σ : St} {H : Hp} : ∀ {vs : List V} {es : List Ev} {G : Hp} {ds : DS} {DQ : List D → DS → Prop}, Rel K G ds σ H → EvsR K G ds σ H vs es → frzAll es ds DQ →
    ∃ xs ds' G', DQ xs ds' ∧ Rel K G' ds' σ H ∧ DpAll K G' vs xs ∧ Ext ds σ G H ds' σ G' H
  | _, _, G, ds, _, R, .nil, q => ⟨[], ds, G, q, R, .nil, Ext.refl ..⟩
  | _, _, G, ds, _, R, .cons h t, q => by
    obtain ⟨d, ds1, G1, q1, R1, p1, x1⟩ := frz_ext R (Ext.refl ..) h.1 (nm_FrN h.2) q
    obtain ⟨xs, ds2, G2, q2, R2, p2, x2⟩ := frzAll_ok R1 (EvsR.mo x1.gg t) q1
    exact ⟨d :: xs, ds2, G2, q2, R2, .cons (Dp.mo x2.gg _ _ p1) p2, x1.trans x2⟩
def whenB (b : Bool) (P : Prop) : Prop := match b with
  | true => P
  | false => False
theorem whenB_e {b : Bool} {P : Prop} (h : whenB b P) : b = true ∧ P := by
  cases b with
  | true => exact ⟨rfl, h⟩
  | false => exact False.elim h
def lenIs {α : Type} : List α → Nat → Bool
  | [], 0 => true
  | _ :: es, n + 1 => lenIs es n
  | _, _ => false
theorem lenIs_e {α : Type} : ∀ {es : List α} {n : Nat}, lenIs es n = true → es.length = n
  | [], 0, _ => rfl
  | _ :: es, n + 1, h => congrArg (· + 1) (lenIs_e (es := es) h)
  | [], _ + 1, h => by cases h
  | _ :: _, 0, h => by cases h
/-- a short list (by its cells) -/
def shortL : Nat → List D → Bool
  | _, [] => true
  | n + 1, _ :: r => shortL n r
  | 0, _ :: _ => false
theorem shortL_e : ∀ {n : Nat} {l : List D}, shortL n l = true → l.length ≤ n
  | _, [], _ => Nat.zero_le _
  | n + 1, _ :: r, h => Nat.succ_le_succ (shortL_e (l := r) h)
  | 0, _ :: _, h => by cases h
def eTup (f : DA) : DE := fun ds Q => f ds fun es ds1 => frzAll es ds1 fun xs ds2 => whenB (shortL 64 xs) (Q (.val (.tuple xs)) ds2)
def eLst (f : DA) : DE := fun ds Q => f ds fun es ds1 => frzAll es ds1 fun xs ds2 => whenB (shortL 64 xs) (Q (.fresh (.list xs)) ds2)
theorem pve_tup {es : List Expr} {f : DA} {x1} (h : PVA X es f) : PVE X (.Tuple es x1 pos) (eTup f) := by
  have zl : sizeLine = 16777216 := sizeLine_eq
  obtain ⟨t, h1, h2⟩ := h
  refine ⟨_, pe_tup h1, fun G ds σ H DQ Q R hf k => h2 G ds σ H _ _ R hf fun es ds1 vs G1 H1 q1 R1 x1 r1 => ?_⟩
  obtain ⟨xs, ds2, G2, q2, R2, p2, x2⟩ := frzAll_ok R1 r1 q1
  obtain ⟨sh, q2⟩ := whenB_e q2
  have sh := shortL_e sh
  refine ⟨by rw [p2.len]; omega, fun p hp => ?_⟩
  obtain ⟨z1, z2, z3⟩ := new_tup R2 p2 hp
  exact k _ _ _ _ _ q2 z1 (x1.trans (x2.trans z2)) z3 trivial
theorem pve_lst {es : List Expr} {f : DA} (h : PVA X es f) : PVE X (.List es pos) (eLst f) := by
  have zl : sizeLine = 16777216 := sizeLine_eq
  obtain ⟨t, h1, h2⟩ := h
  refine ⟨_, pe_lst h1, fun G ds σ H DQ Q R hf k => h2 G ds σ H _ _ R hf fun es ds1 vs G1 H1 q1 R1 x1 r1 => ?_⟩
  obtain ⟨xs, ds2, G2, q2, R2, p2, x2⟩ := frzAll_ok R1 r1 q1
  obtain ⟨sh, q2⟩ := whenB_e q2
  have sh := shortL_e sh
  refine ⟨by rw [p2.len]; omega, fun p hp => ?_⟩
  obtain ⟨z1, z2, z3, z4⟩ := new_list R2 p2 hp
  exact k _ _ _ _ _ q2 z1 (x1.trans (x2.trans z2)) z3 (x1.back (x2.back z4))

/-! ### calls of built-ins that read their arguments -/
abbrev DC := List D → (Ev → Prop) → Prop
def CallV (X : Cx) (f : Value) (op : DC) : Prop := ∃ r, CallR X f r ∧ ∀ (G : Hp) (ds : DS) (σ : St) (H : Hp) (vs : List V) (xs : List D) (DQ : Ev → Prop) (Q : VK), Rel X.K G ds σ H → ShAll X.K G H vs xs → op xs DQ →
  (∀ ev v G' H', DQ ev → Rel X.K G' ds σ H' → Ext ds σ G H ds σ G' H' → EvR X.K G' ds σ H' v ev → FrN ds σ H v ev → Q v H') → r vs H Q
def eBi (op : DC) (f : DA) : DE := fun ds Q => f ds fun es ds1 => rdAll es ds1 fun xs => op xs fun ev => Q ev ds1
variable {x : Str} {p : Pos} {es : List Expr} {id T : String} {op : DC} {fa : DA} {e : Expr}
theorem pve_bi (hc : CallV X (.builtin id) op) (hg : Gl X x) (hm : X.mg x = none) (hv : bootBuiltins x = some (.builtin id)) (ha : PVA X (e :: es) fa) (hn : x ≠ "__name__" := by decide) (hdb : (x == ("__debug__" : Str)) = false := by decide)
    (he : starEach (e :: es) X.env = (false, eval e X.env) :: starEach es X.env := by rfl) (hpl : (backTo pos (starEach es X.env)).any (·.1) = false := by rfl) : PVE X (.Call (.Name x p) (e :: es) [] pos) (eBi op fa) := by
  obtain ⟨r, c1, c2⟩ := hc
  obtain ⟨t, h1, h2⟩ := ha
  refine ⟨_, pe_callB c1 hg hm hv h1 hn hdb he hpl, fun G ds σ H DQ Q R hf k => h2 G ds σ H _ _ R hf fun es ds1 vs G1 H1 q1 R1 x1 r1 => ?_⟩
  obtain ⟨xs, s1, q2⟩ := rdAll_sh R1 r1 q1
  exact c2 G1 ds1 σ H1 vs xs _ Q R1 s1 q2 fun ev v G2 H2 q R2 x2 r2 n2 => k _ _ _ _ _ q R2 (x1.trans x2) r2 (x1.back n2)
theorem pve_ty (hc : CallV X (.type T) op) (hg : Gl X x) (hm : X.mg x = none) (hv : bootBuiltins x = some (.type T)) (ha : PVA X (e :: es) fa) (hn : x ≠ "__name__" := by decide) (hdb : (x == ("__debug__" : Str)) = false := by decide)
    (he : starEach (e :: es) X.env = (false, eval e X.env) :: starEach es X.env := by rfl) (hpl : (backTo pos (starEach es X.env)).any (·.1) = false := by rfl) : PVE X (.Call (.Name x p) (e :: es) [] pos) (eBi op fa) := by
  obtain ⟨r, c1, c2⟩ := hc
  obtain ⟨t, h1, h2⟩ := ha
  refine ⟨_, pe_callTy c1 hg hm hv h1 hn hdb he hpl, fun G ds σ H DQ Q R hf k => h2 G ds σ H _ _ R hf fun es ds1 vs G1 H1 q1 R1 x1 r1 => ?_⟩
  obtain ⟨xs, s1, q2⟩ := rdAll_sh R1 r1 q1
  exact c2 G1 ds1 σ H1 vs xs _ Q R1 s1 q2 fun ev v G2 H2 q R2 x2 r2 n2 => k _ _ _ _ _ q R2 (x1.trans x2) r2 (x1.back n2)
theorem sha1 {K : PySem.W.Frag} {G H : Hp} {vs : List V} {d : D} (h : ShAll K G H vs [d]) : ∃ v, vs = [v] ∧ Sh K G H v d := by
  cases h with
  | cons h t => cases t; exact ⟨_, rfl, h⟩
theorem sha2 {K : PySem.W.Frag} {G H : Hp} {vs : List V} {d e : D} (h : ShAll K G H vs [d, e]) : ∃ v w, vs = [v, w] ∧ Sh K G H v d ∧ Sh K G H w e := by
  cases h with
  | cons h t =>
    cases t with
    | cons h' t => cases t; exact ⟨_, _, rfl, h, h'⟩
def cLen : DC := fun xs Q => match xs with
  | [.list l] => Q (.val (.int l.length))
  | [.tuple l] => Q (.val (.int l.length))
  | [.str s] => s.length ≤ 16777216 ∧ Q (.val (.int s.length))
  | _ => False
theorem cv_len : CallV X (.builtin "len") cLen := by
  have zl : sizeLine = 16777216 := sizeLine_eq
  refine ⟨_, call_len, fun G ds σ H vs xs DQ Q R sh hq k => ?_⟩
  unfold cLen at hq
  split at hq
  · obtain ⟨v, rfl, s⟩ := sha1 sh
    obtain ⟨a, vs, rfl, q5, q6⟩ := s.list R.sub
    exact ⟨_, vs.length, rfl, .inl ⟨vs, q5, rfl⟩, k _ _ _ _ hq R (Ext.refl ..) (by rw [q6.len]; exact .int _) trivial⟩
  · obtain ⟨v, rfl, s⟩ := sha1 sh
    obtain ⟨a, vs, rfl, q5, q6⟩ := s.tuple R.sub
    exact ⟨_, vs.length, rfl, .inr ⟨vs, q5, rfl⟩, k _ _ _ _ hq R (Ext.refl ..) (by rw [q6.len]; exact .int _) trivial⟩
  · obtain ⟨v, rfl, s⟩ := sha1 sh
    exact ⟨_, _, rfl, by rw [s.str]; exact ⟨by omega, rfl⟩, k _ _ _ _ hq.2 R (Ext.refl ..) (.int _) trivial⟩
  · exact hq.elim
def cList : DC := fun xs Q => match xs with
  | [.list l] => Q (.fresh (.list l))
  | [.tuple l] => Q (.fresh (.list l))
  | _ => False
theorem cv_list : CallV X (.type "list") cList := by
  refine ⟨_, call_list_of, fun G ds σ H vs xs DQ Q R sh hq k => ?_⟩
  unfold cList at hq
  split at hq
  · obtain ⟨v, rfl, s⟩ := sha1 sh
    obtain ⟨a, vs, rfl, q5, q6⟩ := s.list R.sub
    refine ⟨a, vs, rfl, .inl q5, fun l hl => ?_⟩
    obtain ⟨z1, z2, z3, z4⟩ := new_list R q6 hl
    exact k _ _ _ _ hq z1 z2 z3 z4
  · obtain ⟨v, rfl, s⟩ := sha1 sh
    obtain ⟨a, vs, rfl, q5, q6⟩ := s.tuple R.sub
    refine ⟨a, vs, rfl, .inr q5, fun l hl => ?_⟩
    obtain ⟨z1, z2, z3, z4⟩ := new_list R q6 hl
    exact k _ _ _ _ hq z1 z2 z3 z4
  · exact hq.elim
def cTuple : DC := fun xs Q => match xs with
  | [.list l] => Q (.val (.tuple l))
  | [.tuple l] => Q (.val (.tuple l))
  | _ => False
theorem cv_tuple : CallV X (.type "tuple") cTuple := by
  refine ⟨_, call_tuple_of, fun G ds σ H vs xs DQ Q R sh hq k => ?_⟩
  unfold cTuple at hq
  split at hq
  · obtain ⟨v, rfl, s⟩ := sha1 sh
    obtain ⟨a, vs, rfl, q5, q6⟩ := s.list R.sub
    refine ⟨a, vs, rfl, .inl ⟨q5, fun l hl => ?_⟩⟩
    obtain ⟨z1, z2, z3⟩ := new_tup R q6 hl
    exact k _ _ _ _ hq z1 z2 z3 trivial
  · obtain ⟨v, rfl, s⟩ := sha1 sh
    obtain ⟨a, vs, rfl, q5, q6⟩ := s.tuple R.sub
    exact ⟨a, vs, rfl, .inr ⟨q5, k _ _ _ _ hq R (Ext.refl ..) (sh_tupD s) trivial⟩⟩
  · exact hq.elim
def cInt : DC := fun xs Q => match xs with
  | [.int i] => Q (.val (.int i))
  | [.bool b] => Q (.val (.int (if b then 1 else 0)))
  | _ => False
theorem cv_int : CallV X (.type "int") cInt := by
  refine ⟨_, call_int1, fun G ds σ H vs xs DQ Q R sh hq k => ?_⟩
  unfold cInt at hq
  split at hq
  · obtain ⟨v, rfl, s⟩ := sha1 sh
    exact .inl ⟨_, by rw [s.int], k _ _ _ _ hq R (Ext.refl ..) (.int _) trivial⟩
  · obtain ⟨v, rfl, s⟩ := sha1 sh
    exact .inr ⟨_, by rw [s.bool], k _ _ _ _ hq R (Ext.refl ..) (.int _) trivial⟩
  · exact hq.elim
def cAbs : DC := fun xs Q => match xs with
  | [.int i] => Q (.val (.int (if i < 0 then -i else i)))
  | _ => False
theorem cv_abs : CallV X (.builtin "abs") cAbs := by
  refine ⟨_, call_abs, fun G ds σ H vs xs DQ Q R sh hq k => ?_⟩
  unfold cAbs at hq
  split at hq
  · obtain ⟨v, rfl, s⟩ := sha1 sh
    exact ⟨_, by rw [s.int], k _ _ _ _ hq R (Ext.refl ..) (.int _) trivial⟩
  · exact hq.elim
/-- the items are ints, bools -/
def intsOf : List D → (List Int → Prop) → Prop
  | [], Q => Q []
  | .int i :: r, Q => intsOf r fun l => Q (i :: l)
  | _ :: _, _ => False
theorem intsOf_e : ∀ {l : List D} {Q : List Int → Prop}, intsOf l Q → ∃ ns, l = ns.map PyData.int ∧ Q ns
  | [], _, h => ⟨[], rfl, h⟩
  | .int i :: r, Q, h => by
    obtain ⟨ns, e, q⟩ := intsOf_e (l := r) h
    exact ⟨i :: ns, by rw [e]; rfl, q⟩
  | .none :: _, _, h => h.elim
  | .bool _ :: _, _, h => h.elim
  | .str _ :: _, _, h => h.elim
  | .list _ :: _, _, h => h.elim
  | .tuple _ :: _, _, h => h.elim
  | .dict _ :: _, _, h => h.elim
theorem intsOf_map : ∀ {ns : List Int} {Q : List Int → Prop}, intsOf (ns.map PyData.int) Q ↔ Q ns
  | [], _ => Iff.rfl
  | n :: ns, Q => by
    show intsOf (ns.map PyData.int) (fun l => Q (n :: l)) ↔ _
    rw [intsOf_map]
def boolsOf : List D → (List Bool → Prop) → Prop
  | [], Q => Q []
  | .bool i :: r, Q => boolsOf r fun l => Q (i :: l)
  | _ :: _, _ => False
theorem boolsOf_e : ∀ {l : List D} {Q : List Bool → Prop}, boolsOf l Q → ∃ ns, l = ns.map PyData.bool ∧ Q ns
  | [], _, h => ⟨[], rfl, h⟩
  | .bool i :: r, Q, h => by
    obtain ⟨ns, e, q⟩ := boolsOf_e (l := r) h
    exact ⟨i :: ns, by rw [e]; rfl, q⟩
  | .none :: _, _, h => h.elim
  | .int _ :: _, _, h => h.elim
  | .str _ :: _, _, h => h.elim
  | .list _ :: _, _, h => h.elim
  | .tuple _ :: _, _, h => h.elim
  | .dict _ :: _, _, h => h.elim
theorem boolsOf_map : ∀ {ns : List Bool} {Q : List Bool → Prop}, boolsOf (ns.map PyData.bool) Q ↔ Q ns
  | [], _ => Iff.rfl
  | n :: ns, Q => by
    show boolsOf (ns.map PyData.bool) (fun l => Q (n :: l)) ↔ _
    rw [boolsOf_map]
def cSum : DC := fun xs Q => match xs with
  | [.list l] => intsOf l fun ns => Q (.val (.int ns.sum))
  | _ => False
theorem cv_sum (hc : X.calm = true) : CallV X (.builtin "sum") cSum := by
  refine ⟨_, cr_sum hc, fun G ds σ H vs xs DQ Q R sh hq k => ?_⟩
  unfold cSum at hq
  split at hq
  · obtain ⟨v, rfl, s⟩ := sha1 sh
    obtain ⟨ns, rfl, q⟩ := intsOf_e hq
    obtain ⟨a, vs, rfl, q5, q6⟩ := s.list R.sub
    rw [q6.intsV] at q5
    exact ⟨a, ns, rfl, q5, k _ _ _ _ q R (Ext.refl ..) (.int _) trivial⟩
  · exact hq.elim
def leastI : List Int → Int
  | [] => 0
  | a :: r => r.foldl (fun m y => if y < m then y else m) a
def mostI : List Int → Int
  | [] => 0
  | a :: r => r.foldl (fun m y => if m < y then y else m) a
theorem leastF : ∀ (r : List Int) (a : Int), (r.foldl (fun m y => if y < m then y else m) a) ∈ a :: r ∧ ∀ y ∈ a :: r, r.foldl (fun m y => if y < m then y else m) a ≤ y
  | [], a => ⟨List.mem_cons_self, fun y h => by simp at h; subst h; exact Int.le_refl _⟩
  | b :: r, a => by
    rw [List.foldl_cons]
    obtain ⟨h1, h2⟩ := leastF r (if b < a then b else a)
    constructor
    · rcases List.mem_cons.mp h1 with e | e
      · rw [e]; split <;> simp
      · exact List.mem_cons_of_mem _ (List.mem_cons_of_mem _ e)
    · intro y hy
      have h3 := h2 _ List.mem_cons_self
      have h4 : (if b < a then b else a) ≤ b ∧ (if b < a then b else a) ≤ a := by split <;> omega
      rcases List.mem_cons.mp hy with e | hy
      · rw [e]; exact Int.le_trans h3 h4.2
      · rcases List.mem_cons.mp hy with e | hy
        · rw [e]; exact Int.le_trans h3 h4.1
        · exact h2 y (List.mem_cons_of_mem _ hy)
theorem mostF : ∀ (r : List Int) (a : Int), (r.foldl (fun m y => if m < y then y else m) a) ∈ a :: r ∧ ∀ y ∈ a :: r, y ≤ r.foldl (fun m y => if m < y then y else m) a
  | [], a => ⟨List.mem_cons_self, fun y h => by simp at h; subst h; exact Int.le_refl _⟩
  | b :: r, a => by
    rw [List.foldl_cons]
    obtain ⟨h1, h2⟩ := mostF r (if a < b then b else a)
    constructor
    · rcases List.mem_cons.mp h1 with e | e
      · rw [e]; split <;> simp
      · exact List.mem_cons_of_mem _ (List.mem_cons_of_mem _ e)
    · intro y hy
      have h3 := h2 _ List.mem_cons_self
      have h4 : b ≤ (if a < b then b else a) ∧ a ≤ (if a < b then b else a) := by split <;> omega
      rcases List.mem_cons.mp hy with e | hy
      · rw [e]; exact Int.le_trans h4.2 h3
      · rcases List.mem_cons.mp hy with e | hy
        · rw [e]; exact Int.le_trans h4.1 h3
        · exact h2 y (List.mem_cons_of_mem _ hy)
theorem least_mem {ns : List Int} (h : ns ≠ []) : leastI ns ∈ ns := by cases ns with | nil => exact absurd rfl h | cons a r => exact (leastF r a).1
theorem least_le {ns : List Int} {y : Int} (h : y ∈ ns) : leastI ns ≤ y := by cases ns with | nil => cases h | cons a r => exact (leastF r a).2 y h
theorem most_mem {ns : List Int} (h : ns ≠ []) : mostI ns ∈ ns := by cases ns with | nil => exact absurd rfl h | cons a r => exact (mostF r a).1
theorem le_most {ns : List Int} {y : Int} (h : y ∈ ns) : y ≤ mostI ns := by cases ns with | nil => cases h | cons a r => exact (mostF r a).2 y h
theorem least_uniq {ns : List Int} {m : Int} (h : m ∈ ns) (q : ∀ y ∈ ns, m ≤ y) : m = leastI ns := by
  have h1 := q _ (least_mem (List.ne_nil_of_mem h))
  have h2 := least_le h
  omega
theorem most_uniq {ns : List Int} {m : Int} (h : m ∈ ns) (q : ∀ y ∈ ns, y ≤ m) : m = mostI ns := by
  have h1 := q _ (most_mem (List.ne_nil_of_mem h))
  have h2 := le_most h
  omega
def cMin : DC := fun xs Q => match xs with
  | [.list l] => intsOf l fun ns => ns ≠ [] ∧ Q (.val (.int (leastI ns)))
  | [.int a, .int b] => Q (.val (.int (if b < a then b else a)))
  | _ => False
theorem cv_min (hc : X.calm = true) : CallV X (.builtin "min") cMin := by
  refine ⟨_, CallR.or (cr_min hc) (call_min2 hc), fun G ds σ H vs xs DQ Q R sh hq k => ?_⟩
  unfold cMin at hq
  split at hq
  · obtain ⟨v, rfl, s⟩ := sha1 sh
    obtain ⟨ns, rfl, h0, q⟩ := intsOf_e hq
    obtain ⟨a, vs, rfl, q5, q6⟩ := s.list R.sub
    rw [q6.intsV] at q5
    refine .inl ⟨a, ns, rfl, q5, List.length_pos_iff.mpr h0, fun m h1 h2 => ?_⟩
    rw [least_uniq h1 h2]
    exact k _ _ _ _ q R (Ext.refl ..) (.int _) trivial
  · obtain ⟨v, w, rfl, s1, s2⟩ := sha2 sh
    exact .inr ⟨_, _, by rw [s1.int, s2.int], k _ _ _ _ hq R (Ext.refl ..) (.int _) trivial⟩
  · exact hq.elim
def cMax : DC := fun xs Q => match xs with
  | [.list l] => intsOf l fun ns => ns ≠ [] ∧ Q (.val (.int (mostI ns)))
  | [.int a, .int b] => Q (.val (.int (if b > a then b else a)))
  | _ => False
theorem cv_max (hc : X.calm = true) : CallV X (.builtin "max") cMax := by
  refine ⟨_, CallR.or (cr_max hc) (call_max2 hc), fun G ds σ H vs xs DQ Q R sh hq k => ?_⟩
  unfold cMax at hq
  split at hq
  · obtain ⟨v, rfl, s⟩ := sha1 sh
    obtain ⟨ns, rfl, h0, q⟩ := intsOf_e hq
    obtain ⟨a, vs, rfl, q5, q6⟩ := s.list R.sub
    rw [q6.intsV] at q5
    refine .inl ⟨a, ns, rfl, q5, List.length_pos_iff.mpr h0, fun m h1 h2 => ?_⟩
    rw [most_uniq h1 h2]
    exact k _ _ _ _ q R (Ext.refl ..) (.int _) trivial
  · obtain ⟨v, w, rfl, s1, s2⟩ := sha2 sh
    exact .inr ⟨_, _, by rw [s1.int, s2.int], k _ _ _ _ hq R (Ext.refl ..) (.int _) trivial⟩
  · exact hq.elim
def cAll : DC := fun xs Q => match xs with
  | [.list l] => boolsOf l fun ns => Q (.val (.bool (ns.all (fun b => b))))
  | _ => False
theorem cv_all (hc : X.calm = true) : CallV X (.builtin "all") cAll := by
  refine ⟨_, cr_all hc, fun G ds σ H vs xs DQ Q R sh hq k => ?_⟩
  unfold cAll at hq
  split at hq
  · obtain ⟨v, rfl, s⟩ := sha1 sh
    obtain ⟨ns, rfl, q⟩ := boolsOf_e hq
    obtain ⟨a, vs, rfl, q5, q6⟩ := s.list R.sub
    rw [q6.boolsV] at q5
    exact ⟨a, ns, rfl, q5, k _ _ _ _ q R (Ext.refl ..) (.bl _) trivial⟩
  · exact hq.elim
def cAny : DC := fun xs Q => match xs with
  | [.list l] => boolsOf l fun ns => Q (.val (.bool (ns.any (fun b => b))))
  | _ => False
theorem cv_any (hc : X.calm = true) : CallV X (.builtin "any") cAny := by
  refine ⟨_, cr_any hc, fun G ds σ H vs xs DQ Q R sh hq k => ?_⟩
  unfold cAny at hq
  split at hq
  · obtain ⟨v, rfl, s⟩ := sha1 sh
    obtain ⟨ns, rfl, q⟩ := boolsOf_e hq
    obtain ⟨a, vs, rfl, q5, q6⟩ := s.list R.sub
    rw [q6.boolsV] at q5
    exact ⟨a, ns, rfl, q5, k _ _ _ _ q R (Ext.refl ..) (.bl _) trivial⟩
  · exact hq.elim
end
end PV
end
section
set_option Elab.async false
set_option linter.all false
set_option maxRecDepth 100000
set_option maxHeartbeats 4000000
namespace PV
open PySem L2

/-! ### calls of the text's own defs -/
/-- a def over data: what it is handed (firm, or lent), what it hands back, the lent things behind it -/
abbrev DSp := List Sl → (Ev → List Sl → Prop) → Prop
def notAt : Ev → Prop
  | .at_ _ => False
  | _ => True
def spD (K : PySem.W.Frag) (n : Nat) (f : DSp) : Sp := fun vs H Q _ => ∃ (G : Hp) (as : List Sl) (DQ : Ev → List Sl → Prop), as.length = n ∧ Rel K G as (vs.map some) H ∧ f as DQ ∧
  ∀ ev as' v G' H', DQ ev as' → Rel K G' as' (vs.map some) H' → Ext as (vs.map some) G H as' (vs.map some) G' H' → EvR K G' as' (vs.map some) H' v ev → FrN as (vs.map some) H v ev → notAt ev → Q v H'
structure Callee (P : Program) (w : World) (K : PySem.W.Frag) (mg : Str → Option Value) (base : Heap) (k : Nat) (x : Str) (n : Nat) (f : DSp) : Prop where
  ex : ∃ (a : Addr) (fd : FuncData) (ps : List Str), FnOk P w K mg base CX0 k a fd ps (spD K n f) ∧ mg x = some (.ref a) ∧ PySem.W.keepIn K (.ref a) = true ∧ Binds K fd ps []
/-- the arguments that are not lent are made firm -/
def fzs : List Bool → List Ev → DS → (DS → Prop) → Prop
  | b :: bs, e :: es, ds, Q => match b with
    | true => fzs bs es ds Q
    | false => frz e ds fun _ ds1 => fzs bs es ds1 Q
  | _, _, ds, Q => Q ds
/-- what is handed over -/
def takeA : List Ev → DS → List Sl
  | [], _ => []
  | .val d :: es, ds => .fz d :: takeA es ds
  | .fresh d :: es, ds => .fz d :: takeA es ds
  | .at_ i :: es, ds => (ds[i]?).getD .no :: takeA es ds
def isOw : Option Sl → Bool
  | some (.ow _) => true
  | _ => false
/-- the slots that are lent -/
def owIx : List Ev → DS → List Nat
  | [], _ => []
  | .at_ i :: es, ds => if isOw ds[i]? then i :: owIx es ds else owIx es ds
  | _ :: es, ds => owIx es ds
/-- back from the call -/
def putB : List Ev → List Sl → DS → DS
  | .at_ i :: es, a :: as, ds => putB es as (if isOw ds[i]? then ds.set i a else ds)
  | _ :: es, _ :: as, ds => putB es as ds
  | _, _, ds => ds
def notIn : Nat → List Nat → Bool
  | _, [] => true
  | a, b :: r => (!Nat.beq a b) && notIn a r
def nodupB : List Nat → Bool
  | [] => true
  | a :: r => notIn a r && nodupB r
theorem notIn_e : ∀ {a : Nat} {r : List Nat}, notIn a r = true → a ∉ r
  | _, [], _ => by simp
  | a, b :: r, h => by
    unfold notIn at h
    rw [Bool.and_eq_true] at h
    simp only [List.mem_cons, not_or]
    exact ⟨fun e => by subst e; simp at h, notIn_e h.2⟩
theorem nodupB_e : ∀ {l : List Nat}, nodupB l = true → l.Nodup
  | [], _ => by simp
  | a :: r, h => by
    unfold nodupB at h
    rw [Bool.and_eq_true] at h
    exact List.nodup_cons.mpr ⟨notIn_e h.1, nodupB_e h.2⟩
def eCall (f : DSp) (n : Nat) (bs : List Bool) (fa : DA) : DE := fun ds Q => fa ds fun es ds1 => fzs bs es ds1 fun ds2 => whenB (lenIs es n && nodupB (owIx es ds2)) (f (takeA es ds2) fun ev as' => Q ev (putB es as' ds2))

theorem fzs_ok {K : PySem.W.Frag} {σ : St} {H : Hp} : ∀ (bs : List Bool) {vs : List V} {es : List Ev} {G : Hp} {ds : DS} {DQ : DS → Prop}, Rel K G ds σ H → EvsR K G ds σ H vs es → fzs bs es ds DQ →
    ∃ ds' G', DQ ds' ∧ Rel K G' ds' σ H ∧ Ext ds σ G H ds' σ G' H
  | [], _, _, G, ds, _, R, _, q => ⟨ds, G, by unfold fzs at q; exact q, R, Ext.refl ..⟩
  | _ :: _, _, _, G, ds, _, R, .nil, q => ⟨ds, G, by unfold fzs at q; exact q, R, Ext.refl ..⟩
  | true :: bs, _, _, G, ds, _, R, .cons h t, q => fzs_ok bs R t q
  | false :: bs, _, _, G, ds, _, R, .cons h t, q => by
    unfold fzs at q
    simp only at q
    obtain ⟨d, ds1, G1, q1, R1, p1, x1⟩ := frz_ext R (Ext.refl ..) h.1 (nm_FrN h.2) q
    obtain ⟨ds2, G2, q2, R2, x2⟩ := fzs_ok bs R1 (EvsR.mo x1.gg t) q1
    exact ⟨ds2, G2, q2, R2, x1.trans x2⟩
/-- what stands at the k-th place of a call -/
theorem takeA_get {ds : DS} : ∀ {es : List Ev} {k : Nat} {s : Sl}, (takeA es ds)[k]? = some s → ∃ e, es[k]? = some e ∧ ((∃ d, (e = .val d ∨ e = .fresh d) ∧ s = .fz d) ∨ ∃ i, e = .at_ i ∧ s = (ds[i]?).getD .no)
  | [], k, s, h => by simp [takeA] at h
  | .val d :: es, 0, s, h => by simp [takeA] at h; exact ⟨_, rfl, .inl ⟨d, .inl rfl, h.symm⟩⟩
  | .fresh d :: es, 0, s, h => by simp [takeA] at h; exact ⟨_, rfl, .inl ⟨d, .inr rfl, h.symm⟩⟩
  | .at_ i :: es, 0, s, h => by simp [takeA] at h; exact ⟨_, rfl, .inr ⟨i, rfl, h.symm⟩⟩
  | .val d :: es, k + 1, s, h => by simpa using takeA_get (es := es) (k := k) (by simpa [takeA] using h)
  | .fresh d :: es, k + 1, s, h => by simpa using takeA_get (es := es) (k := k) (by simpa [takeA] using h)
  | .at_ i :: es, k + 1, s, h => by simpa using takeA_get (es := es) (k := k) (by simpa [takeA] using h)
theorem takeA_len {ds : DS} : ∀ (es : List Ev), (takeA es ds).length = es.length
  | [] => rfl
  | .val d :: es => by simp [takeA, takeA_len es]
  | .fresh d :: es => by simp [takeA, takeA_len es]
  | .at_ i :: es => by simp [takeA, takeA_len es]
theorem EvsR.get {K : PySem.W.Frag} {G : Hp} {ds : DS} {σ : St} {H : Hp} : ∀ {vs : List V} {es : List Ev} {k : Nat} {e : Ev}, EvsR K G ds σ H vs es → es[k]? = some e → ∃ v, vs[k]? = some v ∧ EvR K G ds σ H v e ∧ nm e = e
  | _, _, _, _, .nil, h => by simp at h
  | _, _, 0, _, .cons p t, h => by simp at h; subst h; exact ⟨_, rfl, p⟩
  | _, _, k + 1, _, .cons p t, h => by simpa using EvsR.get t (k := k) (by simpa using h)
theorem EvsR.len {K : PySem.W.Frag} {G : Hp} {ds : DS} {σ : St} {H : Hp} {vs : List V} {es : List Ev} (h : EvsR K G ds σ H vs es) : vs.length = es.length := Paired.length h
theorem owIx_at {ds : DS} : ∀ {es : List Ev} {k : Nat} {i : Nat} {d : D}, es[k]? = some (.at_ i) → ds[i]? = some (.ow d) → i ∈ owIx es ds
  | [], _, _, _, h, _ => by simp at h
  | e :: es, 0, i, d, h, q => by
    simp at h; subst h
    unfold owIx; rw [q]; simp [isOw]
  | e :: es, k + 1, i, d, h, q => by
    have := owIx_at (es := es) (k := k) (by simpa using h) q
    cases e with
    | at_ j =>
      unfold owIx
      split
      · exact List.mem_cons_of_mem _ this
      · exact this
    | _ => exact this
/-- lent once -/
theorem owIx_once {ds : DS} : ∀ {es : List Ev} {k l : Nat} {i : Nat} {d : D}, (owIx es ds).Nodup → es[k]? = some (.at_ i) → es[l]? = some (.at_ i) → ds[i]? = some (.ow d) → k = l
  | [], _, _, _, _, _, h, _, _ => by simp at h
  | e :: es, 0, 0, _, _, _, _, _, _ => rfl
  | e :: es, 0, l + 1, i, d, n, h1, h2, q => by
    simp at h1; subst h1
    unfold owIx at n
    rw [q] at n
    simp only [isOw, if_true] at n
    exact absurd (owIx_at (k := l) (by simpa using h2) q) (List.nodup_cons.mp n).1
  | e :: es, k + 1, 0, i, d, n, h1, h2, q => by
    simp at h2; subst h2
    unfold owIx at n
    rw [q] at n
    simp only [isOw, if_true] at n
    exact absurd (owIx_at (k := k) (by simpa using h1) q) (List.nodup_cons.mp n).1
  | e :: es, k + 1, l + 1, i, d, n, h1, h2, q => by
    have n' : (owIx es ds).Nodup := by
      cases e with
      | at_ j =>
        unfold owIx at n
        split at n
        · exact (List.nodup_cons.mp n).2
        · exact n
      | _ => exact n
    exact congrArg (· + 1) (owIx_once n' (by simpa using h1) (by simpa using h2) q)
theorem putB_len : ∀ (es : List Ev) (as : List Sl) (ds : DS), (putB es as ds).length = ds.length
  | [], _, _ => by simp [putB]
  | _ :: _, [], _ => by simp [putB]
  | .at_ i :: es, a :: as, ds => by
    simp only [putB]
    rw [putB_len]
    split <;> simp
  | .val _ :: es, a :: as, ds => by simp only [putB]; exact putB_len ..
  | .fresh _ :: es, a :: as, ds => by simp only [putB]; exact putB_len ..
/-- a slot behind a call: as it was and not lent, or as the call left it -/
theorem putB_get : ∀ {es : List Ev} {as : List Sl} {ds : DS} {i : Nat} {s : Sl}, as.length = es.length → (putB es as ds)[i]? = some s →
    (ds[i]? = some s ∧ ∀ (k : Nat) (d : D), es[k]? = some (Ev.at_ i) → s ≠ Sl.ow d) ∨ (∃ k : Nat, es[k]? = some (Ev.at_ i) ∧ as[k]? = some s ∧ isOw ds[i]? = true) ∨ (ds[i]? = some s ∧ ∀ k : Nat, es[k]? ≠ some (Ev.at_ i))
  | [], as, ds, i, s, _, h => .inr (.inr ⟨by simpa [putB] using h, fun k => by simp⟩)
  | e :: es, [], ds, i, s, l, _ => by simp at l
  | e :: es, a :: as, ds, i, s, l, h => by
    have l' : as.length = es.length := by simpa using l
    cases e with
    | at_ j =>
      simp only [putB] at h
      by_cases ho : isOw ds[j]? = true
      · rw [if_pos ho] at h
        rcases putB_get l' h with ⟨h1, h2⟩ | ⟨k, h1, h2, h3⟩ | ⟨h1, h2⟩
        · by_cases hij : j = i
          · subst hij
            rw [List.getElem?_set] at h1
            rw [if_pos rfl] at h1
            split at h1
            · cases h1
              exact .inr (.inl ⟨0, rfl, rfl, ho⟩)
            · cases h1
          · rw [List.getElem?_set_ne hij] at h1
            refine .inl ⟨h1, fun k d e => ?_⟩
            cases k with
            | zero => simp at e; exact absurd e hij
            | succ k => exact h2 k d (by simpa using e)
        · by_cases hij : j = i
          · subst hij
            exact .inr (.inl ⟨k + 1, by simpa using h1, by simpa using h2, ho⟩)
          · rw [List.getElem?_set_ne hij] at h3
            exact .inr (.inl ⟨k + 1, by simpa using h1, by simpa using h2, h3⟩)
        · by_cases hij : j = i
          · subst hij
            rw [List.getElem?_set] at h1
            rw [if_pos rfl] at h1
            split at h1
            · cases h1
              exact .inr (.inl ⟨0, rfl, rfl, ho⟩)
            · cases h1
          · rw [List.getElem?_set_ne hij] at h1
            refine .inr (.inr ⟨h1, fun k => ?_⟩)
            cases k with
            | zero => simpa using hij
            | succ k => simpa using h2 k
      · rw [if_neg ho] at h
        rcases putB_get l' h with ⟨h1, h2⟩ | ⟨k, h1, h2, h3⟩ | ⟨h1, h2⟩
        · refine .inl ⟨h1, fun k d e => ?_⟩
          cases k with
          | zero =>
            simp at e; subst e
            rintro rfl
            rw [h1] at ho
            exact ho rfl
          | succ k => exact h2 k d (by simpa using e)
        · exact .inr (.inl ⟨k + 1, by simpa using h1, by simpa using h2, h3⟩)
        · by_cases hij : j = i
          · subst hij
            refine .inl ⟨h1, fun k d e => ?_⟩
            rintro rfl
            rw [h1] at ho
            exact ho rfl
          · refine .inr (.inr ⟨h1, fun k => ?_⟩)
            cases k with
            | zero => simpa using hij
            | succ k => simpa using h2 k
    | val d =>
      simp only [putB] at h
      rcases putB_get l' h with ⟨h1, h2⟩ | ⟨k, h1, h2, h3⟩ | ⟨h1, h2⟩
      · refine .inl ⟨h1, fun k d e => ?_⟩
        cases k with
        | zero => simp at e
        | succ k => exact h2 k d (by simpa using e)
      · exact .inr (.inl ⟨k + 1, by simpa using h1, by simpa using h2, h3⟩)
      · refine .inr (.inr ⟨h1, fun k => ?_⟩)
        cases k with
        | zero => simp
        | succ k => simpa using h2 k
    | fresh d =>
      simp only [putB] at h
      rcases putB_get l' h with ⟨h1, h2⟩ | ⟨k, h1, h2, h3⟩ | ⟨h1, h2⟩
      · refine .inl ⟨h1, fun k d e => ?_⟩
        cases k with
        | zero => simp at e
        | succ k => exact h2 k d (by simpa using e)
      · exact .inr (.inl ⟨k + 1, by simpa using h1, by simpa using h2, h3⟩)
      · refine .inr (.inr ⟨h1, fun k => ?_⟩)
        cases k with
        | zero => simp
        | succ k => simpa using h2 k

theorem owns_take {K : PySem.W.Frag} {G : Hp} {ds : DS} {σ : St} {H : Hp} {vs : List V} {es : List Ev} (r : EvsR K G ds σ H vs es) {k : Nat} {a : Addr} (h : OwAt (takeA es ds) (vs.map some) k a) : ∃ i, es[k]? = some (.at_ i) ∧ OwAt ds σ i a := by
  obtain ⟨⟨d, e1⟩, e2⟩ := h
  obtain ⟨e, he, q⟩ := takeA_get e1
  rcases q with ⟨d', _, q⟩ | ⟨i, rfl, q⟩
  · cases q
  · obtain ⟨v, hv, rv, _⟩ := r.get he
    have rv : σ[i]? = some (some v) := rv
    have ev : v = .ref a := by
      rw [List.getElem?_map, hv] at e2
      exact Option.some.inj (Option.some.inj e2)
    subst ev
    refine ⟨i, he, ⟨d, ?_⟩, rv⟩
    cases h : ds[i]? with
    | none => rw [h] at q; cases q
    | some s => rw [h] at q; rw [q]; rfl
theorem call_in {K : PySem.W.Frag} {G : Hp} {ds : DS} {σ : St} {H : Hp} {vs : List V} {es : List Ev} (R : Rel K G ds σ H) (r : EvsR K G ds σ H vs es) (n : (owIx es ds).Nodup) : Rel K G (takeA es ds) (vs.map some) H := by
  refine ⟨R.sub, by rw [takeA_len, List.length_map, r.len], fun k d h => ?_, fun k d h => ?_, fun k l a h1 h2 => ?_⟩
  · obtain ⟨e, he, q⟩ := takeA_get h
    obtain ⟨v, hv, rv, hn⟩ := r.get he
    refine ⟨v, by rw [List.getElem?_map, hv]; rfl, ?_⟩
    rcases q with ⟨d', q0, q⟩ | ⟨i, rfl, q⟩
    · cases q
      rcases q0 with rfl | rfl
      · exact rv
      · cases hn
    · have rv : σ[i]? = some (some v) := rv
      cases h : ds[i]? with
      | none => rw [h] at q; cases q
      | some s =>
        rw [h] at q
        have q : Sl.fz d = s := q
        subst q
        obtain ⟨v', h1, h2⟩ := R.fz i d h
        rw [rv] at h1; cases h1
        exact h2
  · obtain ⟨e, he, q⟩ := takeA_get h
    obtain ⟨v, hv, rv, hn⟩ := r.get he
    rcases q with ⟨d', q0, q⟩ | ⟨i, rfl, q⟩
    · cases q
    · have rv : σ[i]? = some (some v) := rv
      cases h : ds[i]? with
      | none => rw [h] at q; cases q
      | some s =>
        rw [h] at q
        have q : Sl.ow d = s := q
        subst q
        obtain ⟨a, o, h1, h2, h3, h4⟩ := R.ow i d h
        rw [rv] at h1; cases h1
        exact ⟨a, o, by rw [List.getElem?_map, hv]; rfl, h2, h3, h4⟩
  · obtain ⟨i, g1, g2⟩ := owns_take r h1
    obtain ⟨j, g3, g4⟩ := owns_take r h2
    have e := R.ap i j a g2 g4
    subst e
    obtain ⟨⟨d, g5⟩, _⟩ := g2
    exact owIx_once n g1 g3 g5
theorem call_out {K : PySem.W.Frag} {G : Hp} {ds : DS} {σ : St} {H : Hp} {vs : List V} {es : List Ev} (R : Rel K G ds σ H) (r : EvsR K G ds σ H vs es) (n : (owIx es ds).Nodup) {as' : List Sl} {G' H' : Hp}
    (R' : Rel K G' as' (vs.map some) H') (x : Ext (takeA es ds) (vs.map some) G H as' (vs.map some) G' H') : Rel K G' (putB es as' ds) σ H' ∧ Ext ds σ G H (putB es as' ds) σ G' H' ∧ (∀ a, Owns (takeA es ds) (vs.map some) a → Owns ds σ a) ∧ ∀ a, Owns (putB es as' ds) σ a → Owns as' (vs.map some) a ∨ (H a ≠ none ∧ ¬ Owns (takeA es ds) (vs.map some) a) := by
  have ll : as'.length = es.length := by rw [R'.len, List.length_map, r.len]
  have hown : ∀ a, Owns (takeA es ds) (vs.map some) a → Owns ds σ a := fun a ⟨k, h⟩ => by
    obtain ⟨i, _, g⟩ := owns_take r h
    exact ⟨i, g⟩
  -- a slot's value at a lent place
  have at_v : ∀ {k i : Nat} {v : V}, es[k]? = some (.at_ i) → (vs.map some)[k]? = some (some v) → σ[i]? = some (some v) := fun {k i v} h1 h2 => by
    obtain ⟨v', hv, rv, _⟩ := r.get h1
    rw [List.getElem?_map, hv] at h2
    cases (Option.some.inj (Option.some.inj h2) : v' = v)
    exact rv
  have own' : ∀ i a, OwAt (putB es as' ds) σ i a → OwAt ds σ i a := fun i a ⟨⟨d, e⟩, s⟩ => by
    rcases putB_get ll e with ⟨h1, _⟩ | ⟨k, h1, h2, h3⟩ | ⟨h1, _⟩
    · exact ⟨⟨d, h1⟩, s⟩
    · refine ⟨?_, s⟩
      cases q : ds[i]? with
      | none => rw [q] at h3; cases h3
      | some t =>
        rw [q] at h3
        cases t with
        | ow d' => exact ⟨d', rfl⟩
        | _ => cases h3
    · exact ⟨⟨d, h1⟩, s⟩
  -- an own list that is not lent stays as it is
  have stay : ∀ {i : Nat} {d : D} {a : Addr} {o : HO}, ds[i]? = some (.ow d) → (∀ k : Nat, es[k]? ≠ some (Ev.at_ i)) → σ[i]? = some (some (.ref a)) → G a = none → H a = some o → Own K G o d → G' a = none ∧ H' a = some o ∧ Own K G' o d := fun {i d a o} h1 h2 h3 h4 h5 h6 => by
    have nO : ¬ Owns (takeA es ds) (vs.map some) a := fun ⟨k, h⟩ => by
      obtain ⟨j, g1, g2⟩ := owns_take r h
      have e := R.ap i j a ⟨⟨d, h1⟩, h3⟩ g2
      subst e
      exact h2 k g1
    refine ⟨?_, x.fr a o h5 nO, Own.mo x.gg h6⟩
    cases e : G' a with
    | none => rfl
    | some u =>
      rcases x.nw a u e h4 with q | q
      · rw [h5] at q; cases q
      · exact absurd q nO
  refine ⟨⟨R'.sub, by rw [putB_len]; exact R.len, fun i d e => ?_, fun i d e => ?_, fun i j a h1 h2 => R.ap i j a (own' i a h1) (own' j a h2)⟩, ⟨x.gg, fun b o h q => x.fr b o h fun z => q (hown b z), fun b o h q => ?_, fun b ⟨i, h⟩ => .inl ⟨i, own' i b h⟩⟩, hown, fun a ⟨i, ⟨d, e⟩, s⟩ => ?_⟩
  · rcases putB_get ll e with ⟨h1, _⟩ | ⟨k, h1, h2, h3⟩ | ⟨h1, _⟩
    · obtain ⟨v, g1, g2⟩ := R.fz i d h1
      exact ⟨v, g1, Dp.mo x.gg _ _ g2⟩
    · obtain ⟨v, g1, g2⟩ := R'.fz k d h2
      exact ⟨v, at_v h1 g1, g2⟩
    · obtain ⟨v, g1, g2⟩ := R.fz i d h1
      exact ⟨v, g1, Dp.mo x.gg _ _ g2⟩
  · rcases putB_get ll e with ⟨h1, h2⟩ | ⟨k, h1, h2, h3⟩ | ⟨h1, h2⟩
    · obtain ⟨a, o, g1, g2, g3, g4⟩ := R.ow i d h1
      obtain ⟨k1, k2, k3⟩ := stay h1 (fun k e' => h2 k d e' rfl) g1 g2 g3 g4
      exact ⟨a, o, g1, k1, k2, k3⟩
    · obtain ⟨a, o, g1, g2, g3, g4⟩ := R'.ow k d h2
      exact ⟨a, o, at_v h1 g1, g2, g3, g4⟩
    · obtain ⟨a, o, g1, g2, g3, g4⟩ := R.ow i d h1
      obtain ⟨k1, k2, k3⟩ := stay h1 h2 g1 g2 g3 g4
      exact ⟨a, o, g1, k1, k2, k3⟩
  · rcases x.nw b o h q with z | z
    · exact .inl z
    · exact .inr (hown b z)
  · have nl : ds[i]? = some (.ow d) → (∀ k : Nat, es[k]? ≠ some (Ev.at_ i)) → Owns as' (vs.map some) a ∨ (H a ≠ none ∧ ¬ Owns (takeA es ds) (vs.map some) a) := fun h1 h2 => by
      obtain ⟨a', o, g1, g2, g3, g4⟩ := R.ow i d h1
      rw [s] at g1; cases g1
      refine .inr ⟨(by rw [g3]; simp), fun ⟨k, h⟩ => ?_⟩
      obtain ⟨j, g1, g2⟩ := owns_take r h
      have e := R.ap i j a ⟨⟨d, h1⟩, s⟩ g2
      subst e
      exact h2 k g1
    rcases putB_get ll e with ⟨h1, h2⟩ | ⟨k, h1, h2, h3⟩ | ⟨h1, h2⟩
    · exact nl h1 (fun k e' => h2 k d e' rfl)
    · obtain ⟨v', hv, rv, _⟩ := r.get h1
      have rv : σ[i]? = some (some v') := rv
      rw [s] at rv; cases rv
      exact .inl ⟨k, ⟨d, h2⟩, (by rw [List.getElem?_map, hv]; rfl)⟩
    · exact nl h1 h2
end PV
end
section
set_option Elab.async false
set_option linter.all false
set_option maxRecDepth 100000
set_option maxHeartbeats 4000000
namespace L2
open PySem PyProof.Rows
section
variable {X : Cx} {tg : Expr}
/-- over a list or a tuple -/
def iSeq (K : PySem.W.Frag) (tl : TE) : TI := fun σ H R => tl σ H fun x H1 => ∃ a, x = .ref a ∧ (((∃ xs, SqL K H1 a xs) ∧ R (Itl K a) H1) ∨ ((∃ xs, SqT K H1 a xs) ∧ R (Itt K a) H1))
theorem pi_seq {l : Expr} {tl : TE} (hl : PE X l tl) : PI X tg l (iSeq X.K tl) := by
  refine ⟨fun pins s σ H R I h => ?_⟩
  refine thn (hl.run pins s σ H _ I h) fun v s1 ⟨x, H1, I1, r1, q1⟩ => ?_
  obtain ⟨a, e, q1⟩ := q1
  subst e
  cases r1
  rcases q1 with ⟨⟨xs, hq⟩, q⟩ | ⟨⟨xs, hq⟩, q⟩
  · obtain ⟨its, rv, p, hz⟩ := I1.list hq
    refine wpAny_pyIter_list p.isList ?_
    refine ⟨s1.heap.objs.size, [s1.heap.objs.size], _, _, H1, rfl, I1.kept (t' := s1.toks) fun b o e => Heap.get?_push_of_some _ e, turn_list a _, ⟨_, Heap.get?_push_size _ rfl, rfl, rfl⟩, fun b hb => ?_, q⟩
    have e : b = s1.heap.objs.size := by simpa using hb
    subst e
    exact I1.fpOk (Nat.le_refl _) (I1.hok.fresh (Nat.le_refl _))
  · obtain ⟨its, rv, p, hz⟩ := I1.tuple hq
    refine wpAny_pyIter_tuple (show s1.heap.IsTuple a its.toArray from p) ?_
    refine ⟨s1.heap.objs.size, [s1.heap.objs.size], _, _, H1, rfl, I1.kept (t' := s1.toks) fun b o e => Heap.get?_push_of_some _ e, turn_tuple a _, ⟨_, Heap.get?_push_size _ rfl, rfl, rfl⟩, fun b hb => ?_, q⟩
    have e : b = s1.heap.objs.size := by simpa using hb
    subst e
    exact I1.fpOk (Nat.le_refl _) (I1.hok.fresh (Nat.le_refl _))
/-- a, b = a tuple or a list -/
theorem pg_seq {es : List Expr} {k : Nat} {t : TGs} {n : Nat} {pos : Pos} (hc : X.calm = true) (h : PGs X es t)
    (hn : (assignEach es X.env).length = n := by rfl) (hst : (assignEach es X.env).findIdx? (·.1) = none := by rfl) : PG X (.Tuple es k pos) (fun v σ H Q => gTup X.K n t v σ H Q ∨ gUnl X.K n t v σ H Q) := by
  refine ⟨fun pins s σ H v u Q I r hw => ?_⟩
  rcases hw with hw | hw
  · exact (pg_tup (k := k) (pos := pos) hc h hn hst).run pins s σ H v u Q I r hw
  · exact (pg_unl (k := k) (pos := pos) hc h hn hst).run pins s σ H v u Q I r hw
def rGetL (K : PySem.W.Frag) : V → V → Hp → VK → Prop := fun o i H Q => ∃ p xs k v, o = .ref p ∧ i = .int k ∧ SqL K H p xs ∧ atI xs k = some v ∧ Q v H
theorem get_list : PGet X (rGetL X.K) := by
  intro pins s σ H o i ov iv Q I rx ry h
  obtain ⟨p, xs, i, z, rfl, rfl, hq, he, q⟩ := h
  cases rx
  obtain ⟨t, rfl⟩ := ry
  obtain ⟨its, r, pl, hz⟩ := I.list hq
  obtain ⟨j, h1, h2, h3, h4, h5⟩ := atI_get he
  obtain ⟨w, ew, rw'⟩ := r.get h2
  have hl := r.length
  have hn := line63
  have fin : EP X pins σ Q w s := ⟨z, H, I, rw', q⟩
  by_cases h0 : 0 ≤ i
  · have hj : i.toNat = j := by
      rw [seqIndex_of h0 h5] at h1
      exact Option.some.inj h1
    exact wpAny_getItem_list pl.isList h0 (by omega) (by rw [hj]; simpa using ew) fin
  · have hj : (i + (its.toArray.size : Int)).toNat = j := by
      rw [seqIndex_neg (by omega) h4] at h1
      rw [List.size_toArray, ← hl]
      exact Option.some.inj h1
    exact wpAny_getItem_list_neg pl.isList (by omega) (by rw [List.size_toArray] <;> omega) (by omega) (by rw [hj]; simpa using ew) fin
end
end L2
namespace PV
open PySem L2
section
variable {X : Cx} {pos : Pos}
/-- a call of a def of the text -/
theorem pve_call {x : Str} {p : Pos} {e : Expr} {es : List Expr} {n k : Nat} {f : DSp} {bs : List Bool} {fa : DA} (C : Callee X.prog X.w X.K X.mg X.base k x n f) (hr : Room k X.A) (hg : Gl X x) (hp : Passes CX0 X E0) (ha : PVA X (e :: es) fa)
    (hdb : (x == ("__debug__" : Str)) = false := by decide) (he : starEach (e :: es) X.env = (false, eval e X.env) :: starEach es X.env := by rfl) (hpl : (backTo pos (starEach es X.env)).any (·.1) = false := by rfl) :
    PVE X (.Call (.Name x p) (e :: es) [] pos) (eCall f n bs fa) := by
  obtain ⟨a, fd, ps, F, hm, hk, hb⟩ := C.ex
  obtain ⟨t, h1, h2⟩ := ha
  refine ⟨_, pe_call F hr hg hm hk hb .nil hp h1 hdb he hpl, fun G ds σ H DQ Q R hf k => h2 G ds σ H _ _ R hf fun es ds1 vs G1 H1 q1 R1 x1 r1 => ?_⟩
  obtain ⟨ds2, G2, q2, R2, x2⟩ := fzs_ok bs R1 r1 q1
  obtain ⟨nd, q2⟩ := whenB_e q2
  rw [Bool.and_eq_true] at nd
  have ln := lenIs_e nd.1
  have nd := nodupB_e nd.2
  have r2 : EvsR X.K G2 ds2 σ H1 vs es := EvsR.mo x2.gg r1
  rw [List.append_nil]
  refine ⟨G2, takeA es ds2, _, by rw [takeA_len]; exact ln, call_in R2 r2 nd, q2, fun ev as' v G3 H3 q3 R3 x3 rv nv na => ?_⟩
  obtain ⟨R4, x4, o4, n4⟩ := call_out R2 r2 nd R3 x3
  have xx := x1.trans (x2.trans x4)
  cases ev with
  | val d => exact k _ _ _ _ _ q3 R4 xx rv trivial
  | at_ i => exact na.elim
  | fresh d =>
    have nv' : FrN ds2 σ H1 v (.fresh d) := fun b e => by
      rcases nv b e with q | q
      · exact .inl q
      · exact .inr (o4 b q)
    refine k _ _ _ _ _ q3 R4 xx ?_ (x1.back (x2.back nv'))
    obtain ⟨a, o, rfl, h1, h2, h3, h4⟩ := rv
    refine ⟨a, o, rfl, h1, h2, h3, fun z => ?_⟩
    rcases n4 a z with q | ⟨q, q'⟩
    · exact h4 q
    · rcases nv a rfl with w | w
      · exact q w
      · exact q' w
/-! ### methods that change a list of one's own -/
abbrev DM := List D → List D → (List D → D → Prop) → Prop
def MutV (X : Cx) (id : String) (op : DM) : Prop := ∃ r, MtR X id r ∧ ∀ (G H : Hp) (a : Addr) (vs ws : List V) (l xs : List D) (DQ : List D → D → Prop) (Q : VK), H a = some (.lst vs) → DpAll X.K G vs l → DpAll X.K G ws xs → op l xs DQ →
  (∀ l' d vs' v, DQ l' d → DpAll X.K G vs' l' → Dp X.K G v d → Q v (upd H a (.lst vs'))) → r (.ref a) ws H Q
def withLs (ds : DS) (i : Nat) (P : Prop) : Prop := match ds[i]? with
  | some (.fz (.list _)) => P
  | some (.ow (.list _)) => P
  | _ => False
def mutAt (ds : DS) (i : Nat) (Q : List D → Prop) : Prop := match ds[i]? with
  | some (.ow (.list l)) => Q l
  | _ => False
def eMut (i : Nat) (op : DM) (fa : DA) : DE := fun ds Q => withLs ds i (fa ds fun es ds1 => frzAll es ds1 fun xs ds2 => mutAt ds2 i fun l => op l xs fun l' d => Q (.val d) (ds2.set i (.ow (.list l'))))
theorem isLs_v {K : PySem.W.Frag} {G : Hp} {ds : DS} {σ : St} {H : Hp} {i : Nat} {P : Prop} (R : Rel K G ds σ H) (h : withLs ds i P) : P ∧ ∃ a, σ[i]? = some (some (.ref a)) ∧ ∃ xs, SqL K H a xs := by
  unfold withLs at h
  split at h
  · rename_i l e
    obtain ⟨v, h1, h2⟩ := R.fz i _ e
    cases h2 with
    | lst hs ha => exact ⟨h, _, h1, _, SqL.mo R.sub hs⟩
  · rename_i l e
    obtain ⟨a, o, h1, h2, h3, h4⟩ := R.ow i _ e
    obtain ⟨vs, ds, rfl, _, _⟩ := own_lst h4
    exact ⟨h, a, h1, vs, .inl (.inl h3)⟩
  · exact h.elim
theorem owAt_setO {ds : DS} {σ : St} {i j : Nat} {a : Addr} {d e : D} (h : ds[i]? = some (.ow d)) (q : OwAt (ds.set i (.ow e)) σ j a) : OwAt ds σ j a := by
  obtain ⟨⟨d', e1⟩, e2⟩ := q
  by_cases hij : i = j
  · subst hij; exact ⟨⟨d, h⟩, e2⟩
  · rw [List.getElem?_set_ne hij] at e1
    exact ⟨⟨d', e1⟩, e2⟩
/-- a list of one's own is changed -/
theorem Rel.mut {K : PySem.W.Frag} {G : Hp} {ds : DS} {σ : St} {H : Hp} (R : Rel K G ds σ H) {i : Nat} {d : D} (e : ds[i]? = some (.ow d)) {a : Addr} (ha : σ[i]? = some (some (.ref a))) {o : HO} {d' : D} (h : Own K G o d') :
    Rel K G (ds.set i (.ow d')) σ (upd H a o) ∧ Ext ds σ G H (ds.set i (.ow d')) σ G (upd H a o) := by
  obtain ⟨a', o0, h1, h2, h3, h4⟩ := R.ow i d e
  rw [ha] at h1; cases h1
  have hi : i < ds.length := (List.getElem?_eq_some_iff.mp e).1
  refine ⟨⟨fun b u q => ?_, (by rw [List.length_set]; exact R.len), fun j d1 q => ?_, fun j d1 q => ?_, fun j k b p q => R.ap j k b (owAt_setO e p) (owAt_setO e q)⟩, ⟨Same.refl G, fun b u q n => ?_, fun b u q z => (by rw [z] at q; cases q), fun b ⟨j, q⟩ => .inl ⟨j, owAt_setO e q⟩⟩⟩
  · rw [upd_ne (fun z => by rw [z, h2] at q; cases q)]; exact R.sub b u q
  · by_cases hij : i = j
    · subst hij; rw [List.getElem?_set_self hi] at q; cases q
    · rw [List.getElem?_set_ne hij] at q; exact R.fz j d1 q
  · by_cases hij : i = j
    · subst hij; rw [List.getElem?_set_self hi] at q; cases q
      exact ⟨a, o, ha, h2, upd_same, h⟩
    · rw [List.getElem?_set_ne hij] at q
      obtain ⟨b, u, q1, q2, q3, q4⟩ := R.ow j d1 q
      refine ⟨b, u, q1, q2, ?_, q4⟩
      rw [upd_ne (fun z => hij (R.ap i j a ⟨⟨d, e⟩, ha⟩ ⟨⟨d1, q⟩, by rw [← z]; exact q1⟩))]
      exact q3
  · rw [upd_ne (fun z => n ⟨i, ⟨d, e⟩, by rw [z]; exact ha⟩)]; exact q
theorem mutAt_v {ds : DS} {i : Nat} {Q : List D → Prop} (h : mutAt ds i Q) : ∃ l, ds[i]? = some (.ow (.list l)) ∧ Q l := by
  unfold mutAt at h
  split at h
  · rename_i l e; exact ⟨l, e, h⟩
  · exact h.elim
theorem mut_step {id : String} {op : DM} (hm : MutV X id op) : ∃ r, MtR X id r ∧ ∀ {G0 : Hp} {ds0 : DS} {H0 : Hp} {G : Hp} {ds : DS} {σ : St} {H : Hp} {i : Nat} {a : Addr} {vs : List V} {es : List Ev} {DQ : Ev → DS → Prop} {Q : VK}, Rel X.K G ds σ H → Ext ds0 σ G0 H0 ds σ G H → EvsR X.K G ds σ H vs es → σ[i]? = some (some (.ref a)) →
    (frzAll es ds fun xs ds2 => mutAt ds2 i fun l => op l xs fun l' d => DQ (.val d) (ds2.set i (.ow (.list l')))) →
    (∀ ev ds' v G' H', DQ ev ds' → Rel X.K G' ds' σ H' → Ext ds0 σ G0 H0 ds' σ G' H' → EvR X.K G' ds' σ H' v ev → FrN ds0 σ H0 v ev → Q v H') → r (.ref a) vs H Q := by
  obtain ⟨r, hr, hs⟩ := hm
  refine ⟨r, hr, fun {G0 ds0 H0 G ds σ H i a vs es DQ Q} R x rs ha hq k => ?_⟩
  obtain ⟨xs, ds2, G2, q2, R2, p2, x2⟩ := frzAll_ok R rs hq
  obtain ⟨l, e, q3⟩ := mutAt_v q2
  obtain ⟨a', o, h1, h2, h3, h4⟩ := R2.ow i _ e
  rw [ha] at h1; cases h1
  obtain ⟨us, l', rfl, e', h5⟩ := own_lst h4
  cases e'
  refine hs G2 H a us vs l xs _ Q h3 h5 p2 q3 fun l' d vs' v q4 p4 pv => ?_
  obtain ⟨R3, x3⟩ := R2.mut e ha (o := .lst vs') (d' := .list l') p4
  exact k _ _ _ _ _ q4 R3 (x.trans (x2.trans x3)) pv trivial
theorem pve_mut {i : Nat} {op : DM} {id : String} {x name : Str} {p apos cpos : Pos} {e : Expr} {es : List Expr} {fa : DA} (slot : PySem.Slot "list" name id) (hty : typeOf (.builtin id) = pure (.type "method_descriptor")) (hm : MutV X id op) (hv : PE X (.Name x p) (tVar i)) (ha : PVA X (e :: es) fa)
    (hfew : ((backTo cpos (starEach (e :: es) X.env)).all (fun x => !x.1) && (backToKw cpos (keywordEach [] X.env)).all (fun x => x.1.isSome)
      && decide ((e :: es).length + ([] : List Keyword).length + (if ([] : List Keyword).isEmpty then 0 else 1) < 30)) = true := by rfl)
    (hline : (apos.endLine == cpos.line) = true := by rfl) (hs : starEach (e :: es) X.env = (false, eval e X.env) :: starEach es X.env := by rfl) (hplain : (backTo cpos (starEach es X.env)).any (·.1) = false := by rfl) :
    PVE X (.Call (.Attribute (.Name x p) name apos) (e :: es) [] cpos) (eMut i op fa) := by
  obtain ⟨r, hr, st⟩ := mut_step hm
  obtain ⟨t, h1, h2⟩ := ha
  refine ⟨_, pe_bm PySem.F.plainAttrs_list slot hty hr hv h1 rfl hfew hline hs hplain, fun G ds σ H DQ Q R hf k => ?_⟩
  obtain ⟨hf, a, ha, xs, hx⟩ := isLs_v R hf
  refine ⟨.ref a, ha, .inl ⟨rfl, xs, hx⟩, h2 G ds σ H _ _ R hf fun es ds1 vs G1 H1 q1 R1 x1 r1 => ?_⟩
  exact st R1 x1 r1 ha q1 k
theorem pve_mut0 {i : Nat} {op : DM} {id : String} {x name : Str} {p apos cpos : Pos} (slot : PySem.Slot "list" name id) (hty : typeOf (.builtin id) = pure (.type "method_descriptor")) (hm : MutV X id op) (hv : PE X (.Name x p) (tVar i)) (hline : (apos.endLine == cpos.line) = true := by rfl) :
    PVE X (.Call (.Attribute (.Name x p) name apos) [] [] cpos) (eMut i op aNil) := by
  obtain ⟨r, hr, st⟩ := mut_step hm
  refine ⟨_, pe_bm0 PySem.F.plainAttrs_list slot hty hr hv rfl hline, fun G ds σ H DQ Q R hf k => ?_⟩
  obtain ⟨hf, a, ha, xs, hx⟩ := isLs_v R hf
  refine ⟨.ref a, ha, .inl ⟨rfl, xs, hx⟩, ?_⟩
  exact st R (Ext.refl ..) .nil ha hf k
def mApp : DM := fun l xs Q => match xs with
  | [d] => l.length < 16777216 ∧ Q (l ++ [d]) .none
  | _ => False
theorem mv_app : MutV X "list.append" mApp := by
  have zl : sizeLine = 16777216 := sizeLine_eq
  refine ⟨_, mt_append, fun G H a vs ws l xs DQ Q hH hl hw hq k => ?_⟩
  unfold mApp at hq
  split at hq
  · cases hw with
    | cons h t =>
      cases t
      exact ⟨a, vs, _, rfl, rfl, hH, by rw [hl.len]; omega, k _ _ _ _ hq.2 (hl.app (.cons h .nil)) .non⟩
  · exact hq.elim
@[irreducible] def mPop : DM := fun l xs Q => match xs with
  | [] => (match l.getLast? with
    | some d => Q l.dropLast d
    | none => False)
  | [.int i] => (-(2 ^ 63) ≤ i ∧ i < 2 ^ 63) ∧ (match ixN l.length i with
    | some j => (match l[j]? with
      | some d => Q (l.eraseIdx j) d
      | none => False)
    | none => False)
  | _ => False
theorem mv_pop : MutV X "list.pop" mPop := by
  have zl : sizeLine = 16777216 := sizeLine_eq
  refine ⟨_, MtR.or mt_pop mt_popAt, fun G H a vs ws l xs DQ Q hH hl hw hq k => ?_⟩
  unfold mPop at hq
  split at hq
  · cases hw
    split at hq
    · rename_i d e
      have e1 : l[l.length - 1]? = some d := by rw [← List.getLast?_eq_getElem?]; exact e
      obtain ⟨v, h1, h2⟩ := hl.get e1
      refine .inl ⟨a, vs, v, rfl, rfl, hH, by rw [hl.len]; exact h1, k _ _ _ _ hq ?_ h2⟩
      have e2 : l.dropLast = l.take (l.length - 1) := List.dropLast_eq_take
      have e3 : vs.dropLast = vs.take (l.length - 1) := by rw [← hl.len]; exact List.dropLast_eq_take
      rw [e2, e3]
      exact DpAll.take _ hl
    · exact hq.elim
  · rename_i i
    cases hw with
    | cons h t =>
      cases t
      cases h
      obtain ⟨hb, hq⟩ := hq
      split at hq
      · rename_i j e
        split at hq
        · rename_i d e1
          obtain ⟨v, h1, h2⟩ := hl.get e1
          obtain ⟨g1, g2, g3, g4⟩ := ixN_seq e
          exact .inr ⟨a, vs, i, j, v, rfl, rfl, hH, hb.1, hb.2, by rw [hl.len]; exact g1, h1, k _ _ _ _ hq (DpAll.erase _ hl) h2⟩
        · exact hq.elim
      · exact hq.elim
  · exact hq.elim
end
end PV
end
section
set_option Elab.async false
set_option linter.all false
set_option maxRecDepth 100000
set_option maxHeartbeats 4000000
namespace PV
open PySem L2
/-! ### what is walked -/
/-- its items; the slot of the list that is walked where it stands -/
structure ItD where
  xs : List D
  sl : Option Nat
/-- the list in slot i is these items still -/
def contIs (i : Nat) (xs : List D) (ds : DS) : Prop := match ds[i]? with
  | some (.fz (.list l)) => l = xs
  | some (.ow (.list l)) => l = xs
  | _ => False
def ItD.ok (it : ItD) (ds : DS) : Prop := match it.sl with
  | none => True
  | some i => contIs i it.xs ds
def guard (sl : Option Nat) (xs : List D) (ds : DS) (P : Prop) : Prop := match sl with
  | none => P
  | some i => (match ds[i]? with
    | some (.fz (.list l)) => l = xs ∧ P
    | some (.ow (.list l)) => l = xs ∧ P
    | _ => False)
theorem guard_e {it : ItD} {ds : DS} {P : Prop} (h : guard it.sl it.xs ds P) : it.ok ds ∧ P := by
  obtain ⟨xs, sl⟩ := it
  cases sl with
  | none => exact ⟨trivial, h⟩
  | some i =>
    show contIs i xs ds ∧ P
    have h : (match ds[i]? with
      | some (.fz (.list l)) => l = xs ∧ P
      | some (.ow (.list l)) => l = xs ∧ P
      | _ => False) := h
    unfold contIs
    split at h
    · exact h
    · exact h
    · exact h.elim
def Pin (pn : List Nat) (σ σ' : St) : Prop := ∀ i ∈ pn, σ'[i]? = σ[i]?
theorem Pin.refl (pn : List Nat) (σ : St) : Pin pn σ σ := fun _ _ => rfl
theorem Pin.trans {pn : List Nat} {σ σ1 σ2 : St} (a : Pin pn σ σ1) (b : Pin pn σ1 σ2) : Pin pn σ σ2 := fun i h => (b i h).trans (a i h)
def ItOk (K : PySem.W.Frag) (pn : List Nat) (σ0 : St) (G0 : Hp) (it : ItD) (J : It) : Prop :=
  ∀ (G : Hp) (ds : DS) (σ : St) (H : Hp), Rel K G ds σ H → Same G0 G → Pin pn σ0 σ → it.ok ds →
    J.stop it.xs.length H ∧ ∀ (k : Nat) (d : D), it.xs[k]? = some d → J.go k H ∧ ∀ v H', J.yld k H v H' → ∃ G', Rel K G' ds σ H' ∧ Ext ds σ G H ds σ G' H' ∧ Dp K G' v d
abbrev DI := DS → (ItD → DS → Prop) → Prop
def PVI (X : Cx) (pn : List Nat) (tg iter : Expr) (f : DI) : Prop := ∃ wi, PI X tg iter wi ∧ ∀ (G : Hp) (ds : DS) (σ : St) (H : Hp) (DQ : ItD → DS → Prop) (R : It → Hp → Prop), Rel X.K G ds σ H → f ds DQ →
  (∀ it ds' J G' H', DQ it ds' → Rel X.K G' ds' σ H' → Ext ds σ G H ds' σ G' H' → ItOk X.K pn σ G' it J → R J H') → wi σ H R
/-- made firm, then walked -/
def iFz (f : DE) : DI := fun ds Q => eFz f ds fun d ds1 => itemsD d fun xs => Q ⟨xs, none⟩ ds1
theorem dp_items {K : PySem.W.Frag} {G : Hp} {v : V} {d : D} {xs : List D} (h : Dp K G v d) (e : d = .list xs ∨ d = .tuple xs) : ∃ a vs, v = .ref a ∧ (SqL K G a vs ∨ SqT K G a vs) ∧ DpAll K G vs xs := by
  rcases e with rfl | rfl
  · cases h with | lst hs ha => exact ⟨_, _, rfl, .inl hs, ha⟩
  · cases h with | tup hs ha => exact ⟨_, _, rfl, .inr hs, ha⟩
/-- two readings of one list: only where H has a list once -/
def OneL (K : PySem.W.Frag) (H : Hp) (a : Addr) (vs : List V) : Prop := SqL K H a vs
theorem itl_ok {X : Cx} {pn : List Nat} {σ : St} {G : Hp} {a : Addr} {vs : List V} {xs : List D} (h : SqL X.K G a vs) (p : DpAll X.K G vs xs) : ItOk X.K pn σ G ⟨xs, none⟩ (Itl X.K a) := by
  intro G1 ds1 σ1 H1 R1 s _ _
  have h1 : SqL X.K H1 a vs := SqL.mo (s.trans R1.sub) h
  refine ⟨⟨vs, h1, by rw [p.len]; exact Nat.le_refl _⟩, fun k d e => ?_⟩
  obtain ⟨v, e1, e2⟩ := p.get e
  refine ⟨⟨vs, v, h1, e1⟩, fun v' H' y => ?_⟩
  obtain ⟨rfl, y⟩ := y
  have := y vs h1
  rw [e1] at this; cases this
  exact ⟨G1, R1, Ext.refl .., Dp.mo s _ _ e2⟩
theorem itt_ok {X : Cx} {pn : List Nat} {σ : St} {G : Hp} {a : Addr} {vs : List V} {xs : List D} (h : SqT X.K G a vs) (p : DpAll X.K G vs xs) : ItOk X.K pn σ G ⟨xs, none⟩ (Itt X.K a) := by
  intro G1 ds1 σ1 H1 R1 s _ _
  have h1 : SqT X.K H1 a vs := SqT.mo (s.trans R1.sub) h
  refine ⟨⟨vs, h1, by rw [p.len]; exact Nat.le_refl _⟩, fun k d e => ?_⟩
  obtain ⟨v, e1, e2⟩ := p.get e
  refine ⟨⟨vs, v, h1, e1⟩, fun v' H' y => ?_⟩
  obtain ⟨rfl, y⟩ := y
  have := y vs h1
  rw [e1] at this; cases this
  exact ⟨G1, R1, Ext.refl .., Dp.mo s _ _ e2⟩
section
variable {X : Cx} {tg e : Expr} {pn : List Nat} {pos : Pos}
theorem pvi_fz {f : DE} (h : PVE X e f) : PVI X pn tg e (iFz f) := by
  obtain ⟨t, h1, h2⟩ := h.fz
  refine ⟨_, pi_seq h1, fun G ds σ H DQ R RR hf k => h2 G ds σ H _ _ RR hf fun d ds1 v G1 H1 q R1 x1 p1 => ?_⟩
  obtain ⟨xs, e, q⟩ := itemsD_e q
  obtain ⟨a, vs, rfl, hs, hp⟩ := dp_items p1 e
  refine ⟨a, rfl, ?_⟩
  rcases hs with hs | hs
  · exact .inl ⟨⟨vs, SqL.mo R1.sub hs⟩, k _ _ _ _ _ q R1 x1 (itl_ok hs hp)⟩
  · exact .inr ⟨⟨vs, SqT.mo R1.sub hs⟩, k _ _ _ _ _ q R1 x1 (itt_ok hs hp)⟩
/-- a list in a slot, walked where it stands -/
def iSlot (i : Nat) : DI := fun ds Q => match ds[i]? with
  | some (.fz d) => itemsD d fun xs => Q ⟨xs, none⟩ ds
  | some (.ow (.list xs)) => Q ⟨xs, some i⟩ ds
  | _ => False
theorem contIs_v {K : PySem.W.Frag} {G : Hp} {ds : DS} {σ : St} {H : Hp} {i : Nat} {xs : List D} (R : Rel K G ds σ H) (c : contIs i xs ds) : ∃ a vs, σ[i]? = some (some (.ref a)) ∧ SqL K H a vs ∧ DpAll K G vs xs := by
  unfold contIs at c
  split at c
  · rename_i l e
    subst c
    obtain ⟨v, h1, h2⟩ := R.fz i _ e
    cases h2 with | lst hs ha => exact ⟨_, _, h1, SqL.mo R.sub hs, ha⟩
  · rename_i l e
    subst c
    obtain ⟨a, o, h1, h2, h3, h4⟩ := R.ow i _ e
    obtain ⟨vs, ds, rfl, e, h5⟩ := own_lst h4
    cases e
    exact ⟨a, vs, h1, .inl (.inl h3), h5⟩
  · exact c.elim
theorem pvi_slot {i : Nat} {x : Str} {p : Pos} (hv : PE X (.Name x p) (tVar i)) (hi : i ∈ pn) : PVI X pn tg (.Name x p) (iSlot i) := by
  refine ⟨_, pi_seq hv, fun G ds σ H DQ R RR hf k => ?_⟩
  unfold iSlot at hf
  split at hf
  · rename_i d e
    obtain ⟨v, h1, h2⟩ := RR.fz i d e
    obtain ⟨xs, e, q⟩ := itemsD_e hf
    obtain ⟨a, vs, rfl, hs, hp⟩ := dp_items h2 e
    refine ⟨_, h1, a, rfl, ?_⟩
    rcases hs with hs | hs
    · exact .inl ⟨⟨vs, SqL.mo RR.sub hs⟩, k _ _ _ _ _ q RR (Ext.refl ..) (itl_ok hs hp)⟩
    · exact .inr ⟨⟨vs, SqT.mo RR.sub hs⟩, k _ _ _ _ _ q RR (Ext.refl ..) (itt_ok hs hp)⟩
  · rename_i xs e
    have c : contIs i xs ds := by unfold contIs; rw [e]
    obtain ⟨a, vs, h1, h2, h3⟩ := contIs_v RR c
    refine ⟨_, h1, a, rfl, .inl ⟨⟨vs, h2⟩, k _ _ _ _ _ hf RR (Ext.refl ..) ?_⟩⟩
    intro G1 ds1 σ1 H1 R1 s pi c1
    obtain ⟨a1, vs1, g1, g2, g3⟩ := contIs_v R1 c1
    rw [pi i hi, h1] at g1
    cases g1
    refine ⟨⟨vs1, g2, by rw [g3.len]; exact Nat.le_refl _⟩, fun j d e => ?_⟩
    obtain ⟨v, e1, e2⟩ := g3.get e
    refine ⟨⟨vs1, v, g2, e1⟩, fun v' H' y => ?_⟩
    obtain ⟨rfl, y⟩ := y
    have := y vs1 g2
    rw [e1] at this; cases this
    exact ⟨G1, R1, Ext.refl .., e2⟩
  · exact hf.elim
/-- lo, lo + 1, .. -/
def rngD (lo : Int) (n : Nat) : List D := (List.range n).map fun k : Nat => PyData.int (lo + (k : Int))
theorem itr_ok {σ : St} {G : Hp} (lo : Int) (n : Nat) : ItOk X.K pn σ G ⟨rngD lo n, none⟩ (Itr lo n) := by
  intro G1 ds1 σ1 H1 R1 s _ _
  have l : (rngD lo n).length = n := by simp [rngD]
  refine ⟨(by show n ≤ (rngD lo n).length; rw [l]; exact Nat.le_refl _), fun k d e => ?_⟩
  have hk : k < n := by rw [← l]; exact (List.getElem?_eq_some_iff.mp e).1
  refine ⟨hk, fun v' H' y => ?_⟩
  obtain ⟨rfl, rfl⟩ := y
  have : d = .int (lo + k) := by
    simp [rngD, List.getElem?_range hk] at e
    exact e.symm
  subst this
  exact ⟨G1, R1, Ext.refl .., .int _⟩
def bnd62 (i : Int) : Prop := -(2 ^ 62) ≤ i ∧ i < 2 ^ 62
def iRange1 (f : DA) : DI := fun ds Q => f ds fun es ds1 => rdAll es ds1 fun xs => match xs with
  | [.int n] => bnd62 n ∧ Q ⟨rngD 0 n.toNat, none⟩ ds1
  | _ => False
def iRange2 (f : DA) : DI := fun ds Q => f ds fun es ds1 => rdAll es ds1 fun xs => match xs with
  | [.int a, .int b] => (bnd62 a ∧ bnd62 b) ∧ Q ⟨rngD a (b - a).toNat, none⟩ ds1
  | _ => False
variable {a b : Expr} {p : Pos} {fa : DA}
theorem pvi_range1 (hg : Gl X "range") (hm : X.mg "range" = none) (ha : PVA X [a] fa) (hs : starEach [a] X.env = [(false, eval a X.env)] := by rfl) : PVI X pn tg (.Call (.Name "range" p) [a] [] pos) (iRange1 fa) := by
  obtain ⟨t, h1, h2⟩ := ha
  refine ⟨_, pi_range1 hg hm h1 hs, fun G ds σ H DQ R RR hf k => h2 G ds σ H _ _ RR hf fun es ds1 vs G1 H1 q1 R1 x1 r1 => ?_⟩
  obtain ⟨xs, s1, q2⟩ := rdAll_sh R1 r1 q1
  split at q2
  · obtain ⟨v, rfl, s⟩ := sha1 s1
    exact ⟨_, by rw [s.int], q2.1.1, q2.1.2, k _ _ _ _ _ q2.2 R1 x1 (itr_ok _ _)⟩
  · exact q2.elim
theorem pvi_range2 (hg : Gl X "range") (hm : X.mg "range" = none) (ha : PVA X [a, b] fa) (hs : starEach [a, b] X.env = [(false, eval a X.env), (false, eval b X.env)] := by rfl) (hs2 : starEach [b] X.env = [(false, eval b X.env)] := by rfl) : PVI X pn tg (.Call (.Name "range" p) [a, b] [] pos) (iRange2 fa) := by
  obtain ⟨t, h1, h2⟩ := ha
  refine ⟨_, pi_range2 hg hm h1 hs hs2, fun G ds σ H DQ R RR hf k => h2 G ds σ H _ _ RR hf fun es ds1 vs G1 H1 q1 R1 x1 r1 => ?_⟩
  obtain ⟨xs, s1, q2⟩ := rdAll_sh R1 r1 q1
  split at q2
  · obtain ⟨v, w, rfl, s, s'⟩ := sha2 s1
    exact ⟨_, _, by rw [s.int, s'.int], ⟨q2.1.1.1, q2.1.1.2, q2.1.2.1, q2.1.2.2⟩, k _ _ _ _ _ q2.2 R1 x1 (itr_ok _ _)⟩
  · exact q2.elim
end

/-! ### targets -/
abbrev DG := D → DS → (DS → Prop) → Prop
abbrev DGs := List D → DS → (DS → Prop) → Prop
def Off (sl : List Nat) (σ σ' : St) : Prop := σ'.length = σ.length ∧ ∀ i, i ∉ sl → σ'[i]? = σ[i]?
def PVG (X : Cx) (sl : List Nat) (tg : Expr) (g : DG) : Prop := ∃ t, PG X tg t ∧ ∀ (G : Hp) (ds : DS) (σ : St) (H : Hp) (v : V) (d : D) (DQ : DS → Prop) (Q : St → Hp → Prop), Rel X.K G ds σ H → Dp X.K G v d → g d ds DQ →
  (∀ ds' σ', DQ ds' → Rel X.K G ds' σ' H → Ext ds σ G H ds' σ' G H → Off sl σ σ' → Q σ' H) → t v σ H Q
def PVGs (X : Cx) (sl : List Nat) (tgs : List Expr) (g : DGs) : Prop := ∃ t, PGs X tgs t ∧ ∀ (G : Hp) (ds : DS) (σ : St) (H : Hp) (vs : List V) (xs : List D) (DQ : DS → Prop) (Q : St → Hp → Prop), Rel X.K G ds σ H → DpAll X.K G vs xs → g xs ds DQ →
  (∀ ds' σ', DQ ds' → Rel X.K G ds' σ' H → Ext ds σ G H ds' σ' G H → Off sl σ σ' → Q σ' H) → t vs σ H Q
def gN (i : Nat) : DG := fun d ds Q => Q (ds.set i (.fz d))
theorem set_get_v {σ : St} {i j : Nat} {v w : V} (h : (σ.set i (some w))[j]? = some (some v)) (n : j ≠ i) : σ[j]? = some (some v) := by
  rw [List.getElem?_set_ne (Ne.symm n)] at h; exact h
theorem owAt_put {ds : DS} {σ : St} {i j : Nat} {a : Addr} {s : Sl} {w : V} (hs : ∀ d, s ≠ .ow d) (h : OwAt (ds.set i s) (σ.set i (some w)) j a) : OwAt ds σ j a ∧ j ≠ i := by
  have h' : OwAt (ds.set i s) (σ.set i (some w)) j a := h
  obtain ⟨⟨d, e⟩, h2⟩ := h
  by_cases hij : i = j
  · subst hij
    rw [List.getElem?_set] at e
    rw [if_pos rfl] at e
    split at e
    · exact absurd (Option.some.inj e) (hs d)
    · cases e
  · rw [List.getElem?_set_ne hij] at e h2
    exact ⟨⟨⟨d, e⟩, h2⟩, fun z => hij z.symm⟩
/-- a slot is given a firm thing -/
theorem Rel.put {K : PySem.W.Frag} {G : Hp} {ds : DS} {σ : St} {H : Hp} (R : Rel K G ds σ H) (i : Nat) {v : V} {d : D} (h : Dp K G v d) : Rel K G (ds.set i (.fz d)) (σ.set i (some v)) H ∧ Ext ds σ G H (ds.set i (.fz d)) (σ.set i (some v)) G H := by
  refine ⟨⟨R.sub, by rw [List.length_set, List.length_set]; exact R.len, fun j d' e => ?_, fun j d' e => ?_, fun j k a p q => R.ap j k a (owAt_put (by intro _ z; cases z) p).1 (owAt_put (by intro _ z; cases z) q).1⟩, ⟨Same.refl G, fun _ _ h _ => h, fun b o h n => (by rw [n] at h; cases h), fun b ⟨j, q⟩ => .inl ⟨j, (owAt_put (by intro _ z; cases z) q).1⟩⟩⟩
  · by_cases hij : i = j
    · subst hij
      rw [List.getElem?_set] at e
      rw [if_pos rfl] at e
      split at e
      · rename_i hi
        cases e
        exact ⟨v, by rw [List.getElem?_set_self (by rw [← R.len]; exact hi)], h⟩
      · cases e
    · rw [List.getElem?_set_ne hij] at e ⊢
      exact R.fz j d' e
  · have hij : i ≠ j := by
      rintro rfl
      rw [List.getElem?_set] at e
      rw [if_pos rfl] at e
      split at e <;> cases e
    rw [List.getElem?_set_ne hij] at e ⊢
    exact R.ow j d' e
/-- a slot is given a thing made just now -/
theorem Rel.putO {K : PySem.W.Frag} {G : Hp} {ds : DS} {σ : St} {H : Hp} (R : Rel K G ds σ H) (i : Nat) {a : Addr} {o : HO} {d : D} (h1 : G a = none) (h2 : H a = some o) (h3 : Own K G o d) (h4 : ¬ Owns ds σ a) : Rel K G (ds.set i (.ow d)) (σ.set i (some (.ref a))) H ∧ ∀ b, Owns (ds.set i (.ow d)) (σ.set i (some (.ref a))) b → Owns ds σ b ∨ b = a := by
  have old : ∀ {j : Nat} {b : Addr}, OwAt (ds.set i (.ow d)) (σ.set i (some (.ref a))) j b → (j = i ∧ b = a) ∨ (j ≠ i ∧ OwAt ds σ j b) := fun {j b} ⟨⟨d', e⟩, s⟩ => by
    by_cases hij : i = j
    · subst hij
      refine .inl ⟨rfl, ?_⟩
      rw [List.getElem?_set] at s
      rw [if_pos rfl] at s
      split at s
      · cases s; rfl
      · cases s
    · rw [List.getElem?_set_ne hij] at e s
      exact .inr ⟨Ne.symm hij, ⟨d', e⟩, s⟩
  refine ⟨⟨R.sub, by rw [List.length_set, List.length_set]; exact R.len, fun j d' e => ?_, fun j d' e => ?_, fun j k b p q => ?_⟩, fun b ⟨j, q⟩ => ?_⟩
  · have hij : i ≠ j := by
      rintro rfl
      rw [List.getElem?_set] at e
      rw [if_pos rfl] at e
      split at e <;> cases e
    rw [List.getElem?_set_ne hij] at e ⊢
    exact R.fz j d' e
  · by_cases hij : i = j
    · subst hij
      rw [List.getElem?_set] at e
      rw [if_pos rfl] at e
      split at e
      · rename_i hi
        cases e
        exact ⟨a, o, by rw [List.getElem?_set_self (by rw [← R.len]; exact hi)], h1, h2, h3⟩
      · cases e
    · rw [List.getElem?_set_ne hij] at e ⊢
      exact R.ow j d' e
  · rcases old p with ⟨rfl, rfl⟩ | ⟨n1, p'⟩
    · rcases old q with ⟨rfl, _⟩ | ⟨n2, q'⟩
      · rfl
      · exact absurd ⟨k, q'⟩ h4
    · rcases old q with ⟨rfl, rfl⟩ | ⟨n2, q'⟩
      · exact absurd ⟨j, p'⟩ h4
      · exact R.ap j k b p' q'
  · rcases old q with ⟨rfl, rfl⟩ | ⟨_, q'⟩
    · exact .inr rfl
    · exact .inl ⟨j, q'⟩
theorem off_set {sl : List Nat} {σ : St} {i : Nat} {v : Option V} (h : i ∈ sl) : Off sl σ (σ.set i v) := ⟨by rw [List.length_set], fun j hj => List.getElem?_set_ne fun z => hj (by rw [← z]; exact h)⟩
theorem Off.trans {sl : List Nat} {σ σ1 σ2 : St} (a : Off sl σ σ1) (b : Off sl σ1 σ2) : Off sl σ σ2 := ⟨b.1.trans a.1, fun i h => (b.2 i h).trans (a.2 i h)⟩
section
variable {X : Cx} {sl : List Nat} {pos : Pos}
theorem pvg_name {i : Nat} {x : Str} (h : PG X (.Name x pos) (gName i)) (hi : i ∈ sl) : PVG X sl (.Name x pos) (gN i) :=
  ⟨_, h, fun G ds σ H v d DQ Q R p q k => k _ _ q (R.put i p).1 (R.put i p).2 (off_set hi)⟩
def gNl : DGs := fun xs ds Q => match xs with
  | [] => Q ds
  | _ :: _ => False
def gCs (g : DG) (gs : DGs) : DGs := fun xs ds Q => match xs with
  | [] => False
  | d :: r => g d ds fun ds1 => gs r ds1 Q
theorem pvgs_nil : PVGs X sl [] gNl := ⟨_, pgs_nil, fun G ds σ H vs xs DQ Q R p q k => by
  unfold gNl at q
  split at q
  · cases p
    exact ⟨rfl, k _ _ q R (Ext.refl ..) ⟨rfl, fun _ _ => rfl⟩⟩
  · exact q.elim⟩
theorem pvgs_cons {e : Expr} {es : List Expr} {g : DG} {gs : DGs} (h : PVG X sl e g) (hr : PVGs X sl es gs) (hs : (assignEach (e :: es) X.env).map (·.2) = assign e X.env :: (assignEach es X.env).map (·.2) := by rfl) : PVGs X sl (e :: es) (gCs g gs) := by
  obtain ⟨t, h1, h2⟩ := h
  obtain ⟨u, g1, g2⟩ := hr
  refine ⟨_, pgs_cons h1 g1 hs, fun G ds σ H vs xs DQ Q R p q k => ?_⟩
  unfold gCs at q
  split at q
  · exact q.elim
  · cases p with
    | cons p1 p2 =>
      refine ⟨_, _, rfl, h2 G ds σ H _ _ _ _ R p1 q fun ds1 σ1 q1 R1 x1 o1 => ?_⟩
      exact g2 G ds1 σ1 H _ _ _ _ R1 p2 q1 fun ds2 σ2 q2 R2 x2 o2 => k _ _ q2 R2 (x1.trans x2) (o1.trans o2)
def gT (n : Nat) (gs : DGs) : DG := fun d ds Q => itemsD d fun xs => whenB (lenIs xs n) (gs xs ds Q)
theorem pvg_tup {es : List Expr} {k : Nat} {gs : DGs} {n : Nat} (hc : X.calm = true) (h : PVGs X sl es gs) (hn : (assignEach es X.env).length = n := by rfl) (hst : (assignEach es X.env).findIdx? (·.1) = none := by rfl) : PVG X sl (.Tuple es k pos) (gT n gs) := by
  obtain ⟨t, h1, h2⟩ := h
  refine ⟨_, pg_seq (k := k) (pos := pos) hc h1 hn hst, fun G ds σ H v d DQ Q R p q k => ?_⟩
  obtain ⟨xs, e, q⟩ := itemsD_e q
  obtain ⟨l, q⟩ := whenB_e q
  have l := lenIs_e l
  obtain ⟨a, vs, rfl, hs, hp⟩ := dp_items p e
  rcases hs with hs | hs
  · exact .inr ⟨a, vs, rfl, SqL.mo R.sub hs, by rw [hp.len]; exact l, h2 G ds σ H vs xs _ _ R hp q k⟩
  · exact .inl ⟨a, vs, rfl, SqT.mo R.sub hs, by rw [hp.len]; exact l, h2 G ds σ H vs xs _ _ R hp q k⟩
end
end PV
end
section
set_option Elab.async false
set_option linter.all false
set_option maxRecDepth 100000
set_option maxHeartbeats 4000000
namespace PV
open PySem L2
/-! ### statements -/
structure DEn where
  nx : DS → Prop
  rt : Ev → DS → Prop
  bk : DS → Prop := fun _ => False
  ct : DS → Prop := fun _ => False
abbrev DSt := DEn → DS → Prop
structure Lnk (K : PySem.W.Frag) (pn : List Nat) (ds : DS) (σ : St) (G H : Hp) (E : DEn) (D : Ends) : Prop where
  nx : ∀ ds' σ' G' H', E.nx ds' → Rel K G' ds' σ' H' → Ext ds σ G H ds' σ' G' H' → Pin pn σ σ' → D.nx σ' H'
  rt : ∀ ev ds' σ' v G' H', E.rt ev ds' → Rel K G' ds' σ' H' → Ext ds σ G H ds' σ' G' H' → Pin pn σ σ' → EvR K G' ds' σ' H' v ev → FrN ds σ H v ev → D.rt v H'
  bk : ∀ ds' σ' G' H', E.bk ds' → Rel K G' ds' σ' H' → Ext ds σ G H ds' σ' G' H' → Pin pn σ σ' → D.bk σ' H'
  ct : ∀ ds' σ' G' H', E.ct ds' → Rel K G' ds' σ' H' → Ext ds σ G H ds' σ' G' H' → Pin pn σ σ' → D.ct σ' H'
theorem Lnk.step {K : PySem.W.Frag} {pn : List Nat} {ds : DS} {σ : St} {G H : Hp} {E : DEn} {D : Ends} (L : Lnk K pn ds σ G H E D) {ds1 : DS} {σ1 : St} {G1 H1 : Hp} (x : Ext ds σ G H ds1 σ1 G1 H1) (p : Pin pn σ σ1) : Lnk K pn ds1 σ1 G1 H1 E D where
  nx := fun ds' σ' G' H' q R y pi => L.nx ds' σ' G' H' q R (x.trans y) (p.trans pi)
  rt := fun ev ds' σ' v G' H' q R y pi r n => L.rt ev ds' σ' v G' H' q R (x.trans y) (p.trans pi) r (x.back n)
  bk := fun ds' σ' G' H' q R y pi => L.bk ds' σ' G' H' q R (x.trans y) (p.trans pi)
  ct := fun ds' σ' G' H' q R y pi => L.ct ds' σ' G' H' q R (x.trans y) (p.trans pi)
def PVS (X : Cx) (pn : List Nat) (st : Stmt) (f : DSt) : Prop := ∃ t, PS X st t ∧ ∀ (G : Hp) (ds : DS) (σ : St) (H : Hp) (E : DEn) (D : Ends), Rel X.K G ds σ H → f E ds → Lnk X.K pn ds σ G H E D → t D σ H
def PVB (X : Cx) (pn : List Nat) (sts : List Stmt) (f : DSt) : Prop := ∃ t, PSs X sts t ∧ ∀ (G : Hp) (ds : DS) (σ : St) (H : Hp) (E : DEn) (D : Ends), Rel X.K G ds σ H → f E ds → Lnk X.K pn ds σ G H E D → t D σ H
section
variable {X : Cx} {pn : List Nat} {st : Stmt} {rest : List Stmt} {f g : DSt} {pos : Pos}
def sNil : DSt := fun E ds => E.nx ds
def sSeq (f g : DSt) : DSt := fun E ds => f { E with nx := g E } ds
theorem pvb_nil : PVB X pn [] sNil := ⟨_, pss_nil, fun G ds σ H E D R q L => L.nx _ _ _ _ q R (Ext.refl ..) (Pin.refl _ _)⟩
theorem pvb_cons (h : PVS X pn st f) (hr : PVB X pn rest g) : PVB X pn (st :: rest) (sSeq f g) := by
  obtain ⟨t, h1, h2⟩ := h
  obtain ⟨u, g1, g2⟩ := hr
  refine ⟨_, pss_cons h1 g1, fun G ds σ H E D R q L => h2 G ds σ H _ _ R q ⟨fun ds' σ' G' H' q' R' x p => ?_, L.rt, L.bk, L.ct⟩⟩
  exact g2 G' ds' σ' H' E D R' q' (L.step x p)
theorem pvb_one (h : PVS X pn st f) : PVB X pn [st] f := by
  obtain ⟨t, h1, h2⟩ := h
  exact ⟨_, pss_one h1, h2⟩
theorem pvs_pass : PVS X pn (.Pass pos) sNil := ⟨_, ps_pass, fun G ds σ H E D R q L => L.nx _ _ _ _ q R (Ext.refl ..) (Pin.refl _ _)⟩
def sBk : DSt := fun E ds => E.bk ds
def sCt : DSt := fun E ds => E.ct ds
theorem pvs_break : PVS X pn (.Break pos) sBk := ⟨_, ps_break, fun G ds σ H E D R q L => L.bk _ _ _ _ q R (Ext.refl ..) (Pin.refl _ _)⟩
theorem pvs_continue : PVS X pn (.Continue pos) sCt := ⟨_, ps_continue, fun G ds σ H E D R q L => L.ct _ _ _ _ q R (Ext.refl ..) (Pin.refl _ _)⟩
def sEx (f : DE) : DSt := fun E ds => f ds fun _ ds1 => E.nx ds1
theorem pvs_expr {e : Expr} {fe : DE} (h : PVE X e fe) (hs : swapsWith e none pos.line X.env = pure false := by rfl) : PVS X pn (.Expr e pos) (sEx fe) := by
  obtain ⟨t, h1, h2⟩ := h
  exact ⟨_, ps_expr h1 hs, fun G ds σ H E D R q L => h2 G ds σ H _ _ R q fun ev ds1 v G1 H1 q1 R1 x1 r1 n1 => L.nx _ _ _ _ q1 R1 x1 (Pin.refl _ _)⟩
theorem pvs_doc {x j pos pos'} : PVS X pn (.Expr (.Constant (.str x) j pos) pos') sNil := ⟨_, ps_doc, fun G ds σ H E D R q L => L.nx _ _ _ _ q R (Ext.refl ..) (Pin.refl _ _)⟩
/-! return -/
theorem Rel.drop {K : PySem.W.Frag} {G : Hp} {ds : DS} {σ : St} {H : Hp} (R : Rel K G ds σ H) (i : Nat) : Rel K G (ds.set i .no) σ H ∧ Ext ds σ G H (ds.set i .no) σ G H := by
  refine ⟨⟨R.sub, by rw [List.length_set]; exact R.len, fun j d e => ?_, fun j d e => ?_, fun j k a p q => R.ap j k a (owAt_set (by intro _ z; cases z) p).1 (owAt_set (by intro _ z; cases z) q).1⟩, ⟨Same.refl G, fun _ _ h _ => h, fun b o h n => (by rw [n] at h; cases h), fun b ⟨j, q⟩ => .inl ⟨j, (owAt_set (by intro _ z; cases z) q).1⟩⟩⟩
  · have hij : i ≠ j := by
      rintro rfl
      rw [List.getElem?_set] at e
      rw [if_pos rfl] at e
      split at e <;> cases e
    rw [List.getElem?_set_ne hij] at e
    exact R.fz j d e
  · have hij : i ≠ j := by
      rintro rfl
      rw [List.getElem?_set] at e
      rw [if_pos rfl] at e
      split at e <;> cases e
    rw [List.getElem?_set_ne hij] at e
    exact R.ow j d e
def retv (pn : List Nat) (e : Ev) (ds : DS) (Q : Ev → DS → Prop) : Prop := match e with
  | .val d => Q (.val d) ds
  | .fresh d => Q (.fresh d) ds
  | .at_ i => match ds[i]? with
    | some (.fz d) => Q (.val d) ds
    | some (.ow d) => if i ∈ pn then Q (.val d) (ds.set i (.fz d)) else Q (.fresh d) (ds.set i .no)
    | _ => False
def sRet (pn : List Nat) (f : DE) : DSt := fun E ds => f ds fun e ds1 => retv pn e ds1 E.rt
theorem pvs_ret {e : Expr} {fe : DE} (h : PVE X e fe) : PVS X pn (.Return (some e) pos) (sRet pn fe) := by
  obtain ⟨t, h1, h2⟩ := h
  refine ⟨_, ps_ret h1, fun G ds σ H E D R q L => h2 G ds σ H _ _ R q fun ev ds1 v G1 H1 q1 R1 x1 r1 n1 => ?_⟩
  cases ev with
  | val d => exact L.rt _ _ _ _ _ _ q1 R1 x1 (Pin.refl _ _) r1 n1
  | fresh d => exact L.rt _ _ _ _ _ _ q1 R1 x1 (Pin.refl _ _) r1 n1
  | at_ i =>
    have r1 : σ[i]? = some (some v) := r1
    unfold retv at q1
    simp only at q1
    split at q1
    · rename_i d e
      obtain ⟨v', h1, h2⟩ := R1.fz i d e
      rw [r1] at h1; cases h1
      exact L.rt _ _ _ _ _ _ q1 R1 x1 (Pin.refl _ _) h2 trivial
    · rename_i d e
      split at q1
      · obtain ⟨a, G2, h1, R2, x2, p2⟩ := R1.firmAt e
        rw [r1] at h1; cases h1
        exact L.rt _ _ _ _ _ _ q1 R2 (x1.trans x2) (Pin.refl _ _) p2 trivial
      · obtain ⟨a, o, h1, h2, h3, h4⟩ := R1.ow i d e
        rw [r1] at h1; cases h1
        obtain ⟨R2, x2⟩ := R1.drop i
        have oa : OwAt ds1 σ i a := ⟨⟨d, e⟩, r1⟩
        refine L.rt _ _ _ _ _ _ q1 R2 (x1.trans x2) (Pin.refl _ _) ⟨a, o, rfl, h2, h3, h4, fun ⟨j, z⟩ => ?_⟩ fun b e => ?_
        · obtain ⟨z1, z2⟩ := owAt_set (by intro _ z; cases z) z
          exact z2 (R1.ap j i a z1 oa)
        · cases e
          exact (x1.ow a ⟨i, oa⟩).symm
    · exact q1.elim
def sRetN : DSt := fun E ds => E.rt (.val .none) ds
theorem pvs_retN : PVS X pn (.Return none pos) sRetN := ⟨_, ps_retN, fun G ds σ H E D R q L => L.rt _ _ _ _ _ _ q R (Ext.refl ..) (Pin.refl _ _) .non trivial⟩
/-! if -/
def sIf (t : DT) (f g : DSt) : DSt := fun E ds => t ds fun b ds1 => br b (f E ds1) (g E ds1)
theorem pvs_if {c : Expr} {a b : List Stmt} {tc : DT} (hc : PVT X c tc) (ha : PVB X pn a f) (hb : PVB X pn b g) : PVS X pn (.If c a b pos) (sIf tc f g) := by
  obtain ⟨t, h1, h2⟩ := hc
  obtain ⟨u, g1, g2⟩ := ha
  obtain ⟨w, k1, k2⟩ := hb
  refine ⟨_, ps_if h1 g1 k1, fun G ds σ H E D R q L => h2 G ds σ H _ _ R q fun c ds1 G1 H1 q1 R1 x1 => ?_⟩
  cases c with
  | true => exact g2 G1 ds1 σ H1 E D R1 q1 (L.step x1 (Pin.refl _ _))
  | false => exact k2 G1 ds1 σ H1 E D R1 q1 (L.step x1 (Pin.refl _ _))
/-! name = value -/
def stv (i : Nat) (e : Ev) (ds : DS) (Q : DS → Prop) : Prop := match e with
  | .val d => Q (ds.set i (.fz d))
  | .fresh d => Q (ds.set i (.ow d))
  | .at_ j => match ds[j]? with
    | some (.fz d) => Q (ds.set i (.fz d))
    | some (.ow d) => Q ((ds.set j (.fz d)).set i (.fz d))
    | _ => False
theorem pin_set {σ : St} {i : Nat} {v : Option V} (h : i ∉ pn) : Pin pn σ (σ.set i v) := fun j hj => List.getElem?_set_ne fun z => h (by rw [z]; exact hj)
theorem stv_ok {G : Hp} {ds : DS} {σ : St} {H : Hp} {E : DEn} {D : Ends} (L : Lnk X.K pn ds σ G H E D) {ev : Ev} {ds1 : DS} {v : V} {G1 H1 : Hp} {i : Nat} (hi : i ∉ pn) (q : stv i ev ds1 E.nx) (R1 : Rel X.K G1 ds1 σ H1) (x1 : Ext ds σ G H ds1 σ G1 H1)
    (r1 : EvR X.K G1 ds1 σ H1 v ev) (n1 : FrN ds σ H v ev) : D.nx (σ.set i (some v)) H1 := by
  cases ev with
  | val d => exact L.nx _ _ _ _ q (R1.put i r1).1 (x1.trans (R1.put i r1).2) (pin_set hi)
  | fresh d =>
    obtain ⟨a, o, rfl, h1, h2, h3, h4⟩ := r1
    obtain ⟨R2, o2⟩ := R1.putO i h1 h2 h3 h4
    refine L.nx _ _ _ _ q R2 ⟨x1.gg, x1.fr, x1.nw, fun b z => ?_⟩ (pin_set hi)
    rcases o2 b z with z | z
    · exact x1.ow b z
    · rw [z]; exact (n1 a rfl).symm
  | at_ j =>
    have r1 : σ[j]? = some (some v) := r1
    unfold stv at q
    simp only at q
    split at q
    · rename_i d e
      obtain ⟨v', h1, h2⟩ := R1.fz j d e
      rw [r1] at h1; cases h1
      exact L.nx _ _ _ _ q (R1.put i h2).1 (x1.trans (R1.put i h2).2) (pin_set hi)
    · rename_i d e
      obtain ⟨a, G2, h1, R2, x2, p2⟩ := R1.firmAt e
      rw [r1] at h1; cases h1
      exact L.nx _ _ _ _ q (R2.put i p2).1 ((x1.trans x2).trans (R2.put i p2).2) (pin_set hi)
    · exact q.elim
def sSet (i : Nat) (f : DE) : DSt := fun E ds => f ds fun e ds1 => stv i e ds1 E.nx
/-- the statement's own rule is handed over (it has two forms) -/
theorem pvs_set {i : Nat} {e tgt : Expr} {fe : DE} (h : PVE X e fe) (hi : i ∉ pn) (hs : ∀ te, PE X e te → PS X (.Assign [tgt] e pos) (tAsg te (gName i))) : PVS X pn (.Assign [tgt] e pos) (sSet i fe) := by
  obtain ⟨t, h1, h2⟩ := h
  exact ⟨_, hs t h1, fun G ds σ H E D R q L => h2 G ds σ H _ _ R q fun ev ds1 v G1 H1 q1 R1 x1 r1 n1 => stv_ok L hi q1 R1 x1 r1 n1⟩
/-- a target of any form -/
def sAsg (f : DF) (g : DG) : DSt := fun E ds => f ds fun d ds1 => g d ds1 E.nx
def apart (sl pn : List Nat) : Bool := sl.all fun i => decide (i ∉ pn)
theorem off_pin {sl : List Nat} {σ σ' : St} (o : Off sl σ σ') (h : apart sl pn = true) : Pin pn σ σ' := fun i hi => o.2 i fun z => by
  have := (List.all_eq_true.mp h) i z
  exact of_decide_eq_true this hi
theorem pvs_asg {tg e : Expr} {fe : DE} {g : DG} {sl : List Nat} (h : PVE X e fe) (hg : PVG X sl tg g) (hp : apart sl pn = true) (hs : swapsWithSole [tg] e pos.line X.env = pure false := by rfl) (hw : swappedStores [tg] e X.env = pure none := by rfl)
    (h1 : (assignEach [tg] X.env).map (·.2) = [assign tg X.env] := by rfl) : PVS X pn (.Assign [tg] e pos) (sAsg (eFz fe) g) := by
  obtain ⟨t, a1, a2⟩ := h.fz
  obtain ⟨u, b1, b2⟩ := hg
  exact ⟨_, ps_asg a1 b1 hs hw h1, fun G ds σ H E D R q L => a2 G ds σ H _ _ R q fun d ds1 v G1 H1 q1 R1 x1 p1 => b2 G1 ds1 σ H1 v d _ _ R1 p1 q1 fun ds2 σ2 q2 R2 x2 o2 => L.nx _ _ _ _ q2 R2 (x1.trans x2) (off_pin o2 hp)⟩
/-- a, b = x, y -/
def sPar (i j : Nat) (fa : DA) : DSt := fun E ds => fa ds fun es ds1 => frzAll es ds1 fun xs ds2 => match xs with
  | [d, e] => E.nx ((ds2.set i (.fz d)).set j (.fz e))
  | _ => False
theorem pvs_par {i j : Nat} {x y : Str} {a b : Expr} {fa : DA} {px py pt : Pos} {kt k2 pt2} (ha : PVA X [a, b] fa) (hi : i ∉ pn) (hj : j ∉ pn)
    (hs : ∀ ta, PA X [a, b] ta → PS X (.Assign [.Tuple [.Name x px, .Name y py] kt pt] (.Tuple [a, b] k2 pt2) pos) (tPar i j ta)) : PVS X pn (.Assign [.Tuple [.Name x px, .Name y py] kt pt] (.Tuple [a, b] k2 pt2) pos) (sPar i j fa) := by
  obtain ⟨t, h1, h2⟩ := ha
  refine ⟨_, hs t h1, fun G ds σ H E D R q L => h2 G ds σ H _ _ R q fun es ds1 vs G1 H1 q1 R1 x1 r1 => ?_⟩
  obtain ⟨xs, ds2, G2, q2, R2, p2, x2⟩ := frzAll_ok R1 r1 q1
  split at q2
  · cases p2 with
    | cons p p2 =>
      cases p2 with
      | cons p' p2 =>
        cases p2
        have A := R2.put i p
        have B := A.1.put j p'
        exact ⟨_, _, rfl, L.nx _ _ _ _ q2 B.1 ((x1.trans x2).trans (A.2.trans B.2)) ((pin_set hi).trans (pin_set hj))⟩
  · exact q2.elim
/-- xs[i] = v, xs a list of one's own -/
def ixD (len : Nat) (n : Int) (k : Nat → Prop) : Prop := match ixN len n with
  | some j => k j
  | none => False
def setN (l : List D) (ix d : D) (Q : List D → Prop) : Prop := match ix with
  | .int n => ixD l.length n fun j => Q (l.set j d)
  | _ => False
theorem setN_v {l : List D} {ix d : D} {Q : List D → Prop} (h : setN l ix d Q) : ∃ n j, ix = .int n ∧ ixN l.length n = some j ∧ Q (l.set j d) := by
  unfold setN ixD at h
  split at h
  · split at h
    · rename_i n j e
      exact ⟨_, _, rfl, e, h⟩
    · exact h.elim
  · exact h.elim
def sSetIx (i : Nat) (f : DE) (k : DE) : DSt := fun E ds => eFz f ds fun d ds1 => withLs ds1 i (k ds1 fun e ds2 => rd e ds2 fun ix => mutAt ds2 i fun l => setN l ix d fun l' => E.nx (ds2.set i (.ow (.list l'))))
theorem pvs_setIx {i : Nat} {x : Str} {p pos' : Pos} {e ke : Expr} {fe fk : DE} (h : PVE X e fe) (hk : PVE X ke fk) (hv : PE X (.Name x p) (tVar i)) (hs : swapsWithSole [.Subscript (.Name x p) ke pos'] e pos.line X.env = pure false := by rfl) (hw : swappedStores [.Subscript (.Name x p) ke pos'] e X.env = pure none := by rfl)
    (h1 : (assignEach [.Subscript (.Name x p) ke pos'] X.env).map (·.2) = [assign (.Subscript (.Name x p) ke pos') X.env] := by rfl)
    (ha : ∀ v, assign (.Subscript (.Name x p) ke pos') X.env v = (do
      let ov ← holding [v] (eval (.Name x p) X.env)
      let iv ← holding [v, ov] (eval ke X.env)
      standAt pos'
      holding [v, ov, iv] (setItem ov iv v)
      release [v, ov, iv] []) := by intro _; rfl) : PVS X pn (.Assign [.Subscript (.Name x p) ke pos'] e pos) (sSetIx i fe fk) := by
  obtain ⟨t, a1, a2⟩ := h.fz
  obtain ⟨u, b1, b2⟩ := hk
  refine ⟨_, ps_asg a1 (pg_sub hv b1 set_list ha) hs hw h1, fun G ds σ H E D R q L => a2 G ds σ H _ _ R q fun d ds1 v G1 H1 q1 R1 x1 p1 => ?_⟩
  obtain ⟨q1, a, ea, _⟩ := isLs_v R1 q1
  refine ⟨.ref a, ea, b2 G1 ds1 σ H1 _ _ R1 q1 fun ev ds2 iv G2 H2 q2 R2 x2 r2 n2 => ?_⟩
  obtain ⟨ix, s2, q3⟩ := rd_sh R2 r2 q2
  obtain ⟨l, e, q4⟩ := mutAt_v q3
  obtain ⟨n, j, rfl, e2, q5⟩ := setN_v q4
  obtain ⟨a', o, g1, g2, g3, g4⟩ := R2.ow i _ e
  rw [ea] at g1; cases g1
  obtain ⟨us, l', rfl, e', h5⟩ := own_lst g4
  cases e'
  obtain ⟨R3, x3⟩ := R2.mut e ea (o := .lst (us.set j v)) (d' := .list (l.set j d)) (DpAll.set (Dp.mo x2.gg _ _ p1) j h5)
  exact ⟨a, us, n, j, rfl, s2.int, g3, by rw [h5.len]; exact e2, L.nx _ _ _ _ q5 R3 (x1.trans (x2.trans x3)) (Pin.refl _ _)⟩
/-! name op= e; xs[i] op= e -/
def valD (e : Ev) (Q : D → Prop) : Prop := match e with
  | .val d => Q d
  | _ => False
theorem valD_v {e : Ev} {Q : D → Prop} (h : valD e Q) : ∃ d, e = .val d ∧ Q d := by
  unfold valD at h
  split at h
  · exact ⟨_, rfl, h⟩
  · exact h.elim
def fzAt (ds : DS) (i : Nat) (Q : D → Prop) : Prop := match ds[i]? with
  | some (.fz d) => Q d
  | _ => False
theorem fzAt_v {ds : DS} {i : Nat} {Q : D → Prop} (h : fzAt ds i Q) : ∃ d, ds[i]? = some (.fz d) ∧ Q d := by
  unfold fzAt at h
  split at h
  · rename_i d e; exact ⟨d, e, h⟩
  · exact h.elim
def sAug (i : Nat) (op : DOp) (f : DE) : DSt := fun E ds => fzAt ds i fun d0 => f ds fun e ds1 => rd e ds1 fun d1 => op d0 d1 fun ev => valD ev fun r => E.nx (ds1.set i (.fz r))
theorem pvs_aug {i : Nat} {x : Str} {e : Expr} {fe : DE} {op : Operator} {dop : DOp} {pos' : Pos} (ho : OpV X (inplaceOp op) dop) (h : PVE X e fe) (hi : i ∉ pn) (hs : ∀ te ti, PE X e te → PIp X op ti → PS X (.AugAssign (.Name x pos') op e pos) (tAug i te ti)) : PVS X pn (.AugAssign (.Name x pos') op e pos) (sAug i dop fe) := by
  obtain ⟨r, hr, hop⟩ := ho
  obtain ⟨t, a1, a2⟩ := h
  refine ⟨_, hs t r a1 hr, fun G ds σ H E D R q L => ?_⟩
  obtain ⟨d0, e0, q⟩ := fzAt_v q
  obtain ⟨v, h1, h2⟩ := R.fz i d0 e0
  refine ⟨v, h1, a2 G ds σ H _ _ R q fun ev ds1 w G1 H1 q1 R1 x1 r1 n1 => ?_⟩
  obtain ⟨d1, s1, q2⟩ := rd_sh R1 r1 q1
  refine hop G1 ds1 σ H1 v w d0 d1 _ _ R1 (.inl (Dp.mo x1.gg _ _ h2)) s1 q2 fun ev' z G2 H2 q3 R2 x2 r2 n2 => ?_
  obtain ⟨d, rfl, q4⟩ := valD_v q3
  exact L.nx _ _ _ _ q4 (R2.put i r2).1 ((x1.trans x2).trans (R2.put i r2).2) (pin_set hi)
def sAugIx (i : Nat) (op : DOp) (k f : DE) : DSt := fun E ds => withLs ds i (k ds fun e1 ds1 => rd e1 ds1 fun ix => mutAt ds1 i fun l0 => oIx (.list l0) ix fun ev0 => valD ev0 fun d0 =>
  f ds1 fun e2 ds2 => rd e2 ds2 fun d2 => op d0 d2 fun ev => valD ev fun r => mutAt ds2 i fun l => setN l ix r fun l' => E.nx (ds2.set i (.ow (.list l'))))
theorem pvs_augIx {i : Nat} {x : Str} {p tpos : Pos} {ke e : Expr} {fk fe : DE} {op : Operator} {dop : DOp} (ho : OpV X (inplaceOp op) dop) (hk : PVE X ke fk) (h : PVE X e fe) (hv : PE X (.Name x p) (tVar i))
    (ha : ∀ ov iv new, augStore ke ov iv new = (do holding [new, ov, iv] (setItem ov iv new); release [new, ov, iv] []; pure .next) := by intros; rfl) : PVS X pn (.AugAssign (.Subscript (.Name x p) ke tpos) op e pos) (sAugIx i dop fk fe) := by
  obtain ⟨r, hr, hop⟩ := ho
  obtain ⟨u, b1, b2⟩ := hk
  obtain ⟨t, a1, a2⟩ := h
  refine ⟨_, ps_augS hv b1 get_list a1 (show PIp X op r from hr) set_list ha, fun G ds σ H E D R q L => ?_⟩
  obtain ⟨q, a, ea, _⟩ := isLs_v R q
  refine ⟨.ref a, ea, b2 G ds σ H _ _ R q fun e1 ds1 iv G1 H1 q1 R1 x1 r1 n1 => ?_⟩
  obtain ⟨ix, s1, q1⟩ := rd_sh R1 r1 q1
  obtain ⟨l0, g0, q1⟩ := mutAt_v q1
  obtain ⟨a', o, g1, g2, g3, g4⟩ := R1.ow i _ g0
  rw [ea] at g1; cases g1
  obtain ⟨us, l0', rfl, e', h5⟩ := own_lst g4
  cases e'
  unfold oIx at q1
  cases ix with
  | int n =>
    simp only at q1
    obtain ⟨v0, d0, e2, p0, q1⟩ := atD_v h5 q1
    have q1 : (fe ds1 fun e2 ds2 => rd e2 ds2 fun d2 => dop d0 d2 fun ev => valD ev fun r => mutAt ds2 i fun l => setN l (.int n) r fun l' => E.nx (ds2.set i (.ow (.list l')))) := q1
    refine ⟨a, us, n, v0, rfl, s1.int, .inl (.inl g3), e2, a2 G1 ds1 σ H1 _ _ R1 q1 fun ev ds2 w G2 H2 q2 R2 x2 r2 n2 => ?_⟩
    obtain ⟨d2, s2, q2⟩ := rd_sh R2 r2 q2
    refine hop G2 ds2 σ H2 v0 w d0 d2 _ _ R2 (.inl (Dp.mo x2.gg _ _ p0)) s2 q2 fun ev' z G3 H3 q3 R3 x3 r3 n3 => ?_
    obtain ⟨d, rfl, q3⟩ := valD_v q3
    obtain ⟨l, g5, q3⟩ := mutAt_v q3
    obtain ⟨n', j, e3, e4, q3⟩ := setN_v q3
    cases e3
    obtain ⟨a', o, k1, k2, k3, k4⟩ := R3.ow i _ g5
    rw [ea] at k1; cases k1
    obtain ⟨us', l', rfl, e', h6⟩ := own_lst k4
    cases e'
    obtain ⟨R4, x4⟩ := R3.mut g5 ea (o := .lst (us'.set j z)) (d' := .list (l.set j d)) (DpAll.set r3 j h6)
    exact ⟨a, us', n, j, rfl, s1.int, k3, by rw [h6.len]; exact e4, L.nx _ _ _ _ q3 R4 (x1.trans (x2.trans (x3.trans x4))) (Pin.refl _ _)⟩
  | _ => exact q1.elim
/-! ### loops -/
/-- the turns left -/
def forGo (ok : DS → Prop → Prop) (g : DG) (b : DSt) : List D → DEn → DS → Prop
  | [], E, ds => ok ds (E.nx ds)
  | x :: xs, E, ds => ok ds (g x ds fun ds1 => b { E with nx := forGo ok g b xs E, ct := forGo ok g b xs E, bk := E.nx } ds1)
def sFor (it : DI) (g : DG) (b : DSt) : DSt := fun E ds => it ds fun i ds1 => forGo (guard i.sl i.xs) g b i.xs E ds1
theorem pvs_for {pn' : List Nat} {tg iter : Expr} {body : List Stmt} {it : DI} {g : DG} {b : DSt} {sl : List Nat} (hcalm : X.calm = true) (hp : PySem.PassesOwn (model X.prog X.w) X.A X.env X.xe) (hi : PVI X pn' tg iter it) (hg : PVG X sl tg g) (hb : PVB X pn' body b) (hsub : apart sl pn' = true) (hpn : ∀ i ∈ pn, i ∈ pn')
    (hs : ∀ x, foldedSetIterable iter X.env x = pure x := by intro _; rfl) : PVS X pn (.For tg iter body [] pos) (sFor it g b) := by
  obtain ⟨wi, i1, i2⟩ := hi
  obtain ⟨tg', g1, g2⟩ := hg
  obtain ⟨tb, b1, b2⟩ := hb
  refine ⟨_, ps_for hp hcalm i1 g1 b1 hs, fun G ds σ H E D R q L => i2 G ds σ H _ _ R q fun i ds1 J G1 H1 q1 R1 x1 io => ?_⟩
  refine ⟨fun k m τ Hk => m = i.xs.length - k ∧ k ≤ i.xs.length ∧ ∃ dk Gk, Rel X.K Gk dk τ Hk ∧ Ext ds1 σ G1 H1 dk τ Gk Hk ∧ Pin pn' σ τ ∧ forGo (guard i.sl i.xs) g b (i.xs.drop k) E dk, ⟨i.xs.length, by simp, Nat.zero_le _, ds1, G1, R1, Ext.refl .., Pin.refl _ _, by simpa using q1⟩, ?_⟩
  rintro k m τ Hk ⟨rfl, hk, dk, Gk, Rk, xk, pk, qk⟩
  have Lk : Lnk X.K pn dk τ Gk Hk E D := L.step (x1.trans xk) fun j hj => pk j (hpn j hj)
  by_cases hlt : k < i.xs.length
  · obtain ⟨d, hd⟩ : ∃ d, i.xs[k]? = some d := ⟨_, List.getElem?_eq_getElem hlt⟩
    have ed : i.xs.drop k = d :: i.xs.drop (k + 1) := by
      rw [List.drop_eq_getElem_cons hlt]
      rw [List.getElem?_eq_getElem hlt] at hd
      cases hd; rfl
    rw [ed] at qk
    obtain ⟨ok, qk⟩ := guard_e qk
    obtain ⟨_, io2⟩ := io Gk dk τ Hk Rk xk.gg pk ok
    obtain ⟨go, yl⟩ := io2 k d hd
    refine .inr ⟨go, fun τ' H' => ∃ m', m' < i.xs.length - k ∧ (m' = i.xs.length - (k + 1) ∧ k + 1 ≤ i.xs.length ∧ ∃ dk' Gk', Rel X.K Gk' dk' τ' H' ∧ Ext ds1 σ G1 H1 dk' τ' Gk' H' ∧ Pin pn' σ τ' ∧ forGo (guard i.sl i.xs) g b (i.xs.drop (k + 1)) E dk'), fun τ' H' h => h, fun v H' y => ?_⟩
    obtain ⟨G2, R2, x2, p2⟩ := yl v H' y
    refine g2 G2 dk τ H' v d _ _ R2 p2 qk fun d3 τ3 q3 R3 x3 o3 => ?_
    have p3 : Pin pn' τ τ3 := off_pin o3 hsub
    have x03 := x2.trans x3
    have nxt : ∀ ds' σ' G' H'', forGo (guard i.sl i.xs) g b (i.xs.drop (k + 1)) E ds' → Rel X.K G' ds' σ' H'' → Ext d3 τ3 G2 H' ds' σ' G' H'' → Pin pn' τ3 σ' → ∃ m', m' < i.xs.length - k ∧ (m' = i.xs.length - (k + 1) ∧ k + 1 ≤ i.xs.length ∧ ∃ dk' Gk', Rel X.K Gk' dk' σ' H'' ∧ Ext ds1 σ G1 H1 dk' σ' Gk' H'' ∧ Pin pn' σ σ' ∧ forGo (guard i.sl i.xs) g b (i.xs.drop (k + 1)) E dk') :=
      fun ds' σ' G' H'' q' R' x' p' => ⟨i.xs.length - (k + 1), by omega, rfl, hlt, ds', G', R', xk.trans (x03.trans x'), pk.trans (p3.trans p'), q'⟩
    have L3 : Lnk X.K pn d3 τ3 G2 H' E D := Lk.step x03 fun j hj => p3 j (hpn j hj)
    refine b2 G2 d3 τ3 H' _ _ R3 q3 ⟨nxt, fun ev ds' σ' v G' H'' q R x p r n => ?_, fun ds' σ' G' H'' q R x p => ?_, nxt⟩
    · exact L3.rt ev ds' σ' v G' H'' q R x (fun j hj => p j (hpn j hj)) r n
    · exact L3.nx ds' σ' G' H'' q R x fun j hj => p j (hpn j hj)
  · have ek : k = i.xs.length := by omega
    subst ek
    rw [List.drop_length] at qk
    obtain ⟨ok, qk⟩ := guard_e qk
    obtain ⟨st, _⟩ := io Gk dk τ Hk Rk xk.gg pk ok
    exact .inl ⟨st, Lk.nx _ _ _ _ qk Rk (Ext.refl ..) (Pin.refl _ _)⟩
def sWhile (t : DT) (b : DSt) : DSt := fun E ds => ∃ W : Nat → DS → Prop, (∃ m, W m ds) ∧ ∀ m ds, W m ds →
  t ds fun c ds1 => br c (b { E with nx := fun ds2 => ∃ m', m' < m ∧ W m' ds2, ct := fun ds2 => ∃ m', m' < m ∧ W m' ds2, bk := E.nx } ds1) (E.nx ds1)
theorem pvs_while {c : Expr} {body : List Stmt} {tc : DT} {b : DSt} (hp : PySem.PassesOwn (model X.prog X.w) X.A X.env X.xe) (hc : PVT X c tc) (hb : PVB X pn body b) : PVS X pn (.While c body [] pos) (sWhile tc b) := by
  obtain ⟨t, c1, c2⟩ := hc
  obtain ⟨tb, b1, b2⟩ := hb
  refine ⟨_, ps_while hp c1 b1, fun G ds σ H E D R q L => ?_⟩
  obtain ⟨W, ⟨m0, w0⟩, turn⟩ := q
  refine ⟨fun m τ Hk => ∃ dk Gk, Rel X.K Gk dk τ Hk ∧ Ext ds σ G H dk τ Gk Hk ∧ Pin pn σ τ ∧ W m dk, ⟨m0, ds, G, R, Ext.refl .., Pin.refl _ _, w0⟩, ?_⟩
  rintro m τ Hk ⟨dk, Gk, Rk, xk, pk, wk⟩
  have Lk := L.step xk pk
  refine c2 Gk dk τ Hk _ _ Rk (turn m dk wk) fun d ds1 G1 H1 q1 R1 x1 => ?_
  cases d with
  | false => exact Lk.nx _ _ _ _ q1 R1 x1 (Pin.refl _ _)
  | true =>
    have L1 := Lk.step x1 (Pin.refl _ _)
    have nxt : ∀ ds' σ' G' H', (∃ m', m' < m ∧ W m' ds') → Rel X.K G' ds' σ' H' → Ext ds1 τ G1 H1 ds' σ' G' H' → Pin pn τ σ' → ∃ m', m' < m ∧ ∃ dk Gk, Rel X.K Gk dk σ' H' ∧ Ext ds σ G H dk σ' Gk H' ∧ Pin pn σ σ' ∧ W m' dk :=
      fun ds' σ' G' H' ⟨m', hm, w'⟩ R' x' p' => ⟨m', hm, ds', G', R', xk.trans (x1.trans x'), pk.trans p', w'⟩
    exact ⟨_, fun σ' H' h => h, b2 G1 ds1 τ H1 _ _ R1 q1 ⟨nxt, L1.rt, L1.nx, nxt⟩⟩
end
end PV
end
section
set_option Elab.async false
set_option linter.all false
set_option maxRecDepth 100000
set_option maxHeartbeats 4000000
namespace PV
open PySem L2
/-! ### readings of one's own, the same in every context -/
def tOf (K : PySem.W.Frag) (f : DF) : TE := fun σ H Q => ∃ (G : Hp) (ds : DS) (DQ : D → DS → Prop), Rel K G ds σ H ∧ f ds DQ ∧ ∀ d ds' v G' H', DQ d ds' → Rel K G' ds' σ H' → Ext ds σ G H ds' σ G' H' → Dp K G' v d → Q v H'
theorem PVF.pe {X : Cx} {e : Expr} {f : DF} (h : PVF X e f) : PE X e (tOf X.K f) := by
  obtain ⟨t, h1, h2⟩ := h
  exact ⟨fun pins s σ H Q I ⟨G, ds, DQ, R, q, k⟩ => h1.run pins s σ H Q I (h2 G ds σ H DQ Q R q k)⟩
def tOfT (K : PySem.W.Frag) (f : DT) : TT := fun σ H Q => ∃ (G : Hp) (ds : DS) (DQ : Bool → DS → Prop), Rel K G ds σ H ∧ f ds DQ ∧ ∀ d ds' G' H', DQ d ds' → Rel K G' ds' σ H' → Ext ds σ G H ds' σ G' H' → Q d H'
def PVTs (X : Cx) (es : List Expr) (f : DT) : Prop := ∃ t, PTs X es t ∧ ∀ (G : Hp) (ds : DS) (σ : St) (H : Hp) (DQ : Bool → DS → Prop) (Q : Bool → Hp → Prop), Rel X.K G ds σ H → f ds DQ →
  (∀ b ds' G' H', DQ b ds' → Rel X.K G' ds' σ H' → Ext ds σ G H ds' σ G' H' → Q b H') → t σ H Q
def tTrue : DT := fun ds Q => Q true ds
theorem pvts_nil {X : Cx} : PVTs X [] tTrue := ⟨_, pts_nil, fun G ds σ H DQ Q R q k => k _ _ _ _ q R (Ext.refl ..)⟩
theorem pvts_one {X : Cx} {e : Expr} {f : DT} (h : PVT X e f) : PVTs X [e] f := by
  obtain ⟨t, h1, h2⟩ := h
  exact ⟨_, pts_one h1, h2⟩
theorem PVTs.pe {X : Cx} {es : List Expr} {f : DT} (h : PVTs X es f) : PTs X es (tOfT X.K f) := by
  obtain ⟨t, h1, h2⟩ := h
  exact ⟨fun pins s σ H Q I ⟨G, ds, DQ, R, q, k⟩ => h1.run pins s σ H Q I (h2 G ds σ H DQ Q R q k)⟩
def tOfG (K : PySem.W.Frag) (sl : List Nat) (g : DG) : TG := fun v σ H Q => ∃ (G : Hp) (ds : DS) (d : D) (DQ : DS → Prop), Rel K G ds σ H ∧ Dp K G v d ∧ g d ds DQ ∧ ∀ ds' σ', DQ ds' → Rel K G ds' σ' H → Ext ds σ G H ds' σ' G H → Off sl σ σ' → Q σ' H
theorem PVG.pe {X : Cx} {sl : List Nat} {e : Expr} {g : DG} (h : PVG X sl e g) : PG X e (tOfG X.K sl g) := by
  obtain ⟨t, h1, h2⟩ := h
  exact ⟨fun pins s σ H v u Q I rv ⟨G, ds, d, DQ, R, p, q, k⟩ => h1.run pins s σ H v u Q I rv (h2 G ds σ H v d DQ Q R p q k)⟩
/-! ### the names of a block are hidden, then back -/
def wipD (ds : DS) : List Nat → DS
  | [] => ds
  | v :: vs => (wipD ds vs).set v .no
def rstD (ds0 : DS) : List Nat → DS → DS
  | [], ds => ds
  | v :: vs, ds => (rstD ds0 vs ds).set v ((ds0[v]?).getD .no)
theorem wipD_len (ds : DS) : ∀ vs, (wipD ds vs).length = ds.length
  | [] => rfl
  | v :: vs => by rw [wipD, List.length_set, wipD_len ds vs]
theorem rstD_len (ds0 : DS) : ∀ vs ds, (rstD ds0 vs ds).length = ds.length
  | [], _ => rfl
  | v :: vs, ds => by rw [rstD, List.length_set, rstD_len ds0 vs ds]
theorem wipD_get {ds : DS} {i : Nat} {s : Sl} : ∀ {vs : List Nat}, (wipD ds vs)[i]? = some s → s = .no ∨ (i ∉ vs ∧ ds[i]? = some s)
  | [], h => .inr ⟨by simp, h⟩
  | v :: vs, h => by
    unfold wipD at h
    by_cases e : v = i
    · subst e
      rw [List.getElem?_set] at h
      rw [if_pos rfl] at h
      split at h
      · cases h; exact .inl rfl
      · cases h
    · rw [List.getElem?_set_ne e] at h
      rcases wipD_get h with q | ⟨q1, q2⟩
      · exact .inl q
      · exact .inr ⟨by simp only [List.mem_cons, not_or]; exact ⟨fun z => e z.symm, q1⟩, q2⟩
theorem rstD_get {ds0 ds : DS} {i : Nat} {s : Sl} : ∀ {vs : List Nat}, (rstD ds0 vs ds)[i]? = some s → (i ∈ vs ∧ (s = .no ∨ ds0[i]? = some s)) ∨ (i ∉ vs ∧ ds[i]? = some s)
  | [], h => .inr ⟨by simp, h⟩
  | v :: vs, h => by
    unfold rstD at h
    by_cases e : v = i
    · subst e
      rw [List.getElem?_set] at h
      rw [if_pos rfl] at h
      split at h
      · cases q : ds0[v]? with
        | none => rw [q] at h; cases h; exact .inl ⟨List.mem_cons_self, .inl rfl⟩
        | some t => rw [q] at h; cases h; exact .inl ⟨List.mem_cons_self, .inr rfl⟩
      · cases h
    · rw [List.getElem?_set_ne e] at h
      rcases rstD_get h with ⟨q1, q2⟩ | ⟨q1, q2⟩
      · exact .inl ⟨List.mem_cons_of_mem _ q1, q2⟩
      · exact .inr ⟨by simp only [List.mem_cons, not_or]; exact ⟨fun z => e z.symm, q1⟩, q2⟩
theorem wipe_off {σ : St} {i : Nat} : ∀ {vs : List Nat}, i ∉ vs → (wipe σ vs)[i]? = σ[i]?
  | [], _ => rfl
  | v :: vs, h => by
    simp only [List.mem_cons, not_or] at h
    unfold wipe
    rw [List.getElem?_set_ne (fun z => h.1 z.symm)]
    exact wipe_off h.2
theorem owAt_wip {ds : DS} {σ : St} {vs : List Nat} {i : Nat} {a : Addr} (h : OwAt (wipD ds vs) (wipe σ vs) i a) : i ∉ vs ∧ OwAt ds σ i a := by
  obtain ⟨⟨d, e⟩, s⟩ := h
  rcases wipD_get e with q | ⟨q1, q2⟩
  · cases q
  · rw [wipe_off q1] at s
    exact ⟨q1, ⟨d, q2⟩, s⟩
theorem Rel.wip {K : PySem.W.Frag} {G : Hp} {ds : DS} {σ : St} {H : Hp} (R : Rel K G ds σ H) (vs : List Nat) : Rel K G (wipD ds vs) (wipe σ vs) H := by
  refine ⟨R.sub, by rw [wipD_len, wipe_length]; exact R.len, fun i d e => ?_, fun i d e => ?_, fun i j a p q => R.ap i j a (owAt_wip p).2 (owAt_wip q).2⟩
  · rcases wipD_get e with q | ⟨q1, q2⟩
    · cases q
    · rw [wipe_off q1]; exact R.fz i d q2
  · rcases wipD_get e with q | ⟨q1, q2⟩
    · cases q
    · rw [wipe_off q1]; exact R.ow i d q2
theorem Rel.rst {K : PySem.W.Frag} {G : Hp} {ds : DS} {σ : St} {H : Hp} {vs : List Nat} {G3 : Hp} {ds3 : DS} {σ2 : St} {H3 : Hp} (R : Rel K G ds σ H) (R3 : Rel K G3 ds3 σ2 H3) (x : Ext (wipD ds vs) (wipe σ vs) G H ds3 σ2 G3 H3) (o : Off vs (wipe σ vs) σ2) :
    Rel K G3 (rstD ds vs ds3) σ H3 ∧ Ext ds σ G H (rstD ds vs ds3) σ G3 H3 := by
  have ws : ∀ i, i ∉ vs → σ2[i]? = σ[i]? := fun i h => (o.2 i h).trans (wipe_off h)
  have own : ∀ {i : Nat} {a : Addr}, OwAt (rstD ds vs ds3) σ i a → (i ∈ vs ∧ OwAt ds σ i a) ∨ (i ∉ vs ∧ OwAt ds3 σ2 i a) := fun {i a} ⟨⟨d, e⟩, s⟩ => by
    rcases rstD_get e with ⟨q1, q2⟩ | ⟨q1, q2⟩
    · rcases q2 with q2 | q2
      · cases q2
      · exact .inl ⟨q1, ⟨d, q2⟩, s⟩
    · exact .inr ⟨q1, ⟨d, q2⟩, by rw [ws i q1]; exact s⟩
  -- a hidden list of one's own is not touched
  have hid : ∀ {i : Nat} {a : Addr}, i ∈ vs → OwAt ds σ i a → ¬ Owns (wipD ds vs) (wipe σ vs) a := fun {i a} hi q ⟨j, z⟩ => by
    obtain ⟨z1, z2⟩ := owAt_wip z
    have := R.ap i j a q z2
    subst this
    exact z1 hi
  refine ⟨⟨R3.sub, by rw [rstD_len, R3.len, o.1, wipe_length], fun i d e => ?_, fun i d e => ?_, fun i j a p q => ?_⟩, ⟨x.gg, fun b u h n => x.fr b u h fun ⟨j, z⟩ => n ⟨j, (owAt_wip z).2⟩, fun b u h n => ?_, fun b ⟨i, z⟩ => ?_⟩⟩
  · rcases rstD_get e with ⟨q1, q2⟩ | ⟨q1, q2⟩
    · rcases q2 with q2 | q2
      · cases q2
      · obtain ⟨v, h1, h2⟩ := R.fz i d q2
        exact ⟨v, h1, Dp.mo x.gg _ _ h2⟩
    · obtain ⟨v, h1, h2⟩ := R3.fz i d q2
      exact ⟨v, by rw [← ws i q1]; exact h1, h2⟩
  · rcases rstD_get e with ⟨q1, q2⟩ | ⟨q1, q2⟩
    · rcases q2 with q2 | q2
      · cases q2
      · obtain ⟨a, u, h1, h2, h3, h4⟩ := R.ow i d q2
        have nO := hid q1 ⟨⟨d, q2⟩, h1⟩
        refine ⟨a, u, h1, ?_, x.fr a u h3 nO, Own.mo x.gg h4⟩
        cases e : G3 a with
        | none => rfl
        | some w =>
          rcases x.nw a w e h2 with z | z
          · rw [h3] at z; cases z
          · exact absurd z nO
    · obtain ⟨a, u, h1, h2, h3, h4⟩ := R3.ow i d q2
      exact ⟨a, u, by rw [← ws i q1]; exact h1, h2, h3, h4⟩
  · have mix : ∀ {i j : Nat}, i ∈ vs → OwAt ds σ i a → OwAt ds3 σ2 j a → False := fun {i j} hi p q => by
      rcases x.ow a ⟨j, q⟩ with z | z
      · exact hid hi p z
      · obtain ⟨_, u, h⟩ := R.owNe ⟨i, p⟩
        rw [h] at z; cases z
    rcases own p with ⟨p1, p2⟩ | ⟨p1, p2⟩
    · rcases own q with ⟨q1, q2⟩ | ⟨q1, q2⟩
      · exact R.ap i j a p2 q2
      · exact (mix p1 p2 q2).elim
    · rcases own q with ⟨q1, q2⟩ | ⟨q1, q2⟩
      · exact (mix q1 q2 p2).elim
      · exact R3.ap i j a p2 q2
  · rcases x.nw b u h n with z | ⟨j, z⟩
    · exact .inl z
    · exact .inr ⟨j, (owAt_wip z).2⟩
  · rcases own z with ⟨_, z⟩ | ⟨_, z⟩
    · exact .inl ⟨i, z⟩
    · rcases x.ow b ⟨i, z⟩ with ⟨j, w⟩ | w
      · exact .inl ⟨j, (owAt_wip w).2⟩
      · exact .inr w
/-- a thing that is nobody's may change -/
theorem Rel.updN {K : PySem.W.Frag} {G : Hp} {ds : DS} {σ : St} {H : Hp} (R : Rel K G ds σ H) {p : Addr} {o : HO} (n : G p = none) (no : ¬ Owns ds σ p) : Rel K G ds σ (upd H p o) where
  sub := fun b u h => by rw [upd_ne (fun z => by rw [z, n] at h; cases h)]; exact R.sub b u h
  len := R.len
  fz := R.fz
  ow := fun i d h => by
    obtain ⟨a, o', h1, h2, h3, h4⟩ := R.ow i d h
    exact ⟨a, o', h1, h2, by rw [upd_ne (fun z => no ⟨i, ⟨d, h⟩, by rw [← z]; exact h1⟩)]; exact h3, h4⟩
  ap := R.ap
/-! ### comprehensions -/
def lcGo (ok : DS → Prop → Prop) (vs : List Nat) (g : DG) (tt : DT) (te : DF) : List D → List D → DS → (List D → DS → Prop) → Prop
  | [], acc, ds, Q => ok ds (Q acc ds)
  | x :: xs, acc, ds, Q => ok ds (g x (wipD ds vs) fun ds1 => tt ds1 fun b ds2 => br b (te ds2 fun d ds3 => acc.length < 16777216 ∧ lcGo ok vs g tt te xs (acc ++ [d]) (rstD ds vs ds3) Q)
      (lcGo ok vs g tt te xs acc (rstD ds vs ds2) Q))
def eLc (it : DI) (vs : List Nat) (g : DG) (tt : DT) (te : DF) : DE := fun ds Q => it ds fun i ds1 => lcGo (guard i.sl i.xs) vs g tt te i.xs [] ds1 fun acc ds2 => Q (.fresh (.list acc)) ds2
theorem wipe_of_off {vs : List Nat} {σ σ2 : St} (o : Off vs (wipe σ vs) σ2) : wipe σ2 vs = wipe σ vs := by
  have look : ∀ (τ : St) (ws : List Nat) (i : Nat), i ∈ ws → (wipe τ ws)[i]? = if i < τ.length then some none else none := by
    intro τ ws
    induction ws with
    | nil => intro i h; cases h
    | cons v ws ih =>
      intro i h
      unfold wipe
      by_cases e : v = i
      · subst e
        rw [List.getElem?_set, if_pos rfl, wipe_length]
      · rw [List.getElem?_set_ne e]
        rcases List.mem_cons.mp h with h | h
        · exact absurd h.symm e
        · exact ih i h
  apply List.ext_getElem?
  intro i
  by_cases h : i ∈ vs
  · rw [look σ2 vs i h, look σ vs i h, o.1, wipe_length]
  · rw [wipe_off h, o.2 i h]
theorem lc_run {X : Cx} {pn : List Nat} {tg iter : Expr} {it : DI} {vs sl : List Nat} {g : DG} {tt : DT} {te : DF} (hi : PVI X pn tg iter it) (hsl : ∀ i ∈ sl, i ∈ vs) : ∃ wi, PI X tg iter wi ∧ ∀ (G : Hp) (ds : DS) (σ : St) (H : Hp) (DQ : Ev → DS → Prop) (Q : VK), Rel X.K G ds σ H → eLc it vs g tt te ds DQ →
    (∀ ev ds' v G' H', DQ ev ds' → Rel X.K G' ds' σ H' → Ext ds σ G H ds' σ G' H' → EvR X.K G' ds' σ H' v ev → FrN ds σ H v ev → Q v H') → tLc wi (tOfG X.K sl g) (tOfT X.K tt) (tOf X.K te) vs σ H Q := by
  have zl : sizeLine = 16777216 := sizeLine_eq
  obtain ⟨wi, i1, i2⟩ := hi
  refine ⟨wi, i1, fun G ds σ H DQ Q R q k => i2 G ds σ H _ _ R q fun i ds1 J G1 H1 q1 R1 x1 io D hD => ?_⟩
  have nD1 := R1.nOwn hD
  have gD1 := R1.gnone hD
  refine ⟨fun n m Hk => m = i.xs.length - n ∧ n ≤ i.xs.length ∧ ∃ dk Gk acc av, Rel X.K Gk dk σ Hk ∧ Ext ds1 σ G1 H1 dk σ Gk Hk ∧ Hk D = some (.lst av) ∧ DpAll X.K Gk av acc ∧ Gk D = none ∧ ¬ Owns dk σ D ∧ lcGo (guard i.sl i.xs) vs g tt te (i.xs.drop n) acc dk fun acc ds2 => DQ (.fresh (.list acc)) ds2,
    ⟨i.xs.length, by simp, Nat.zero_le _, ds1, G1, [], [], R1.updO hD, Ext.updO hD, upd_same, .nil, gD1, nD1, by simpa using q1⟩, ?_⟩
  rintro n m Hk ⟨rfl, hn, dk, Gk, acc, av, Rk, xk, eD, pa, gD, nD, qk⟩
  by_cases hlt : n < i.xs.length
  · obtain ⟨d, hd⟩ : ∃ d, i.xs[n]? = some d := ⟨_, List.getElem?_eq_getElem hlt⟩
    have ed : i.xs.drop n = d :: i.xs.drop (n + 1) := by
      rw [List.drop_eq_getElem_cons hlt]
      rw [List.getElem?_eq_getElem hlt] at hd
      cases hd; rfl
    rw [ed] at qk
    obtain ⟨ok, qk⟩ := guard_e qk
    obtain ⟨_, io2⟩ := io Gk dk σ Hk Rk xk.gg (Pin.refl _ _) ok
    obtain ⟨go, yl⟩ := io2 n d hd
    refine .inr ⟨go, fun H' => ∃ m', m' < i.xs.length - n ∧ (m' = i.xs.length - (n + 1) ∧ n + 1 ≤ i.xs.length ∧ ∃ dk Gk acc av, Rel X.K Gk dk σ H' ∧ Ext ds1 σ G1 H1 dk σ Gk H' ∧ H' D = some (.lst av) ∧ DpAll X.K Gk av acc ∧ Gk D = none ∧ ¬ Owns dk σ D ∧ lcGo (guard i.sl i.xs) vs g tt te (i.xs.drop (n + 1)) acc dk fun acc ds2 => DQ (.fresh (.list acc)) ds2), fun H' h => h, fun v H' y => ?_⟩
    obtain ⟨G2, R2, x2, p2⟩ := yl v H' y
    have keep : ∀ {G3 : Hp} {ds3 : DS} {H3 : Hp}, Ext dk σ Gk Hk ds3 σ G3 H3 → H3 D = some (.lst av) ∧ DpAll X.K G3 av acc ∧ G3 D = none ∧ ¬ Owns ds3 σ D := fun {G3 ds3 H3} x => by
      refine ⟨x.fr D _ eD nD, DpAll.mo x.gg _ _ pa, ?_, fun z => ?_⟩
      · cases e : G3 D with
        | none => rfl
        | some u =>
          rcases x.nw D u e gD with z | z
          · rw [eD] at z; cases z
          · exact absurd z nD
      · rcases x.ow D z with z | z
        · exact nD z
        · rw [eD] at z; cases z
    refine ⟨G2, wipD dk vs, d, _, R2.wip vs, p2, qk, fun ds3 σ3 q3 R3 x3 o3 => ?_⟩
    have o3' : Off vs (wipe σ vs) σ3 := ⟨o3.1, fun j hj => o3.2 j fun z => hj (hsl j z)⟩
    refine ⟨wipe_of_off o3', G2, ds3, _, R3, q3, fun b ds4 G4 H4 q4 R4 x4 => ?_⟩
    have x34 := x3.trans x4
    cases b with
    | true =>
      refine iteT ?_
      refine ⟨G4, ds4, _, R4, q4, fun y ds5 v5 G5 H5 q5 R5 x5 p5 => ?_⟩
      obtain ⟨R6, x6⟩ := Rel.rst R2 R5 (x34.trans x5) o3'
      have x7 := x2.trans x6
      obtain ⟨k1, k2, k3, k4⟩ := keep x7
      refine ⟨av, k1, by rw [pa.len]; omega, i.xs.length - (n + 1), by omega, rfl, hlt, rstD dk vs ds5, G5, acc ++ [y], av ++ [v5], R6.updN k3 k4, ?_, upd_same, k2.app (.cons p5 .nil), k3, k4, q5.2⟩
      have x8 := xk.trans x7
      exact ⟨x8.gg, fun b o h nn => by rw [upd_ne (fun z => by rw [z, hD] at h; cases h)]; exact x8.fr b o h nn, x8.nw, x8.ow⟩
    | false =>
      refine iteF ?_
      obtain ⟨R6, x6⟩ := Rel.rst R2 R4 x34 o3'
      have x7 := x2.trans x6
      obtain ⟨k1, k2, k3, k4⟩ := keep x7
      exact ⟨i.xs.length - (n + 1), by omega, rfl, hlt, rstD dk vs ds4, G4, acc, av, R6, xk.trans x7, k1, k2, k3, k4, q4⟩
  · have ek : n = i.xs.length := by omega
    subst ek
    rw [List.drop_length] at qk
    obtain ⟨ok, qk⟩ := guard_e qk
    obtain ⟨st, _⟩ := io Gk dk σ Hk Rk xk.gg (Pin.refl _ _) ok
    refine .inl ⟨st, k _ _ _ _ _ qk Rk (x1.trans xk) ⟨D, _, rfl, gD, eD, pa, nD⟩ fun a e => ?_⟩
    cases e
    exact x1.nn hD
section
variable {X : Cx} {pos : Pos}
def subN (sl vs : List Nat) : Bool := sl.all fun i => decide (i ∈ vs)
theorem subN_e {sl vs : List Nat} (h : subN sl vs = true) : ∀ i ∈ sl, i ∈ vs := fun i hi => of_decide_eq_true (List.all_eq_true.mp h i hi)
theorem pve_lc {pn : List Nat} {elt tg iter : Expr} {ifs : List Expr} {scope : Scope} {own : List (Str × Nat)} {sl : List Nat} {it : DI} {g : DG} {tt : DT} {te : DE} (hc : X.calm = true) (hN : X.N.Nodup) (hi : PVI X pn tg iter it) (ok : blkC X.N X.env.scope scope own = true) (hsl : subN sl (own.map (·.2)) = true)
    (hg : ∀ (s : Shared) (H : Hp) (C : Addr) (cl : List (Str × Addr)) (fp : List Addr), PVG (X.blk s H scope (compEnvC scope cl C X.env) fp) sl tg g) (ht : ∀ (s : Shared) (H : Hp) (C : Addr) (cl : List (Str × Addr)) (fp : List Addr), PVTs (X.blk s H scope (compEnvC scope cl C X.env) fp) ifs tt)
    (he : ∀ (s : Shared) (H : Hp) (C : Addr) (cl : List (Str × Addr)) (fp : List Addr), PVE (X.blk s H scope (compEnvC scope cl C X.env) fp) elt te) (hs : ∀ x, foldedSetIterable iter X.env x = pure x := by intro _; rfl) :
    PVE X (.ListComp elt [⟨tg, iter, ifs, 0⟩] scope pos) (eLc it (own.map (·.2)) g tt (eFz te)) := by
  obtain ⟨wi, i1, i2⟩ := lc_run (g := g) (tt := tt) (te := eFz te) (vs := own.map (·.2)) hi (subN_e hsl)
  exact ⟨_, pe_lc hc hN i1 (blkOk_by ok) (fun s H C cl fp => (hg s H C cl fp).pe) (fun s H C cl fp => (ht s H C cl fp).pe) (fun s H C cl fp => (he s H C cl fp).fz.pe) hs, i2⟩
theorem pvs_setLc {pn pn' : List Nat} {i : Nat} {y : Str} {py spos : Pos} {elt tg iter : Expr} {ifs : List Expr} {scope : Scope} {own : List (Str × Nat)} {sl : List Nat} {it : DI} {g : DG} {tt : DT} {te : DE} (hc : X.calm = true) (hN : X.N.Nodup) (hy : X.N[i]? = some y) (hyl : X.env.scope.names.lookup y = some .local)
    (hsw : swapsWith (.ListComp elt [⟨tg, iter, ifs, 0⟩] scope pos) (some (.Name y py)) spos.line X.env = pure true) (hin : i ∉ pn') (hi : PVI X pn tg iter it) (ok : blkC X.N X.env.scope scope own = true) (hsl : subN sl (own.map (·.2)) = true)
    (hg : ∀ (s : Shared) (H : Hp) (C : Addr) (cl : List (Str × Addr)) (fp : List Addr), PVG (X.blk s H scope (compEnvC scope cl C X.env) fp) sl tg g) (ht : ∀ (s : Shared) (H : Hp) (C : Addr) (cl : List (Str × Addr)) (fp : List Addr), PVTs (X.blk s H scope (compEnvC scope cl C X.env) fp) ifs tt)
    (he : ∀ (s : Shared) (H : Hp) (C : Addr) (cl : List (Str × Addr)) (fp : List Addr), PVE (X.blk s H scope (compEnvC scope cl C X.env) fp) elt te) (hs : ∀ x, foldedSetIterable iter X.env x = pure x := by intro _; rfl) :
    PVS X pn' (.Assign [.Name y py] (.ListComp elt [⟨tg, iter, ifs, 0⟩] scope pos) spos) (sSet i (eLc it (own.map (·.2)) g tt (eFz te))) := by
  obtain ⟨wi, i1, i2⟩ := lc_run (g := g) (tt := tt) (te := eFz te) (vs := own.map (·.2)) hi (subN_e hsl)
  exact ⟨_, ps_setLc hc hN hy hyl hsw i1 (blkOk_by ok) (fun s H C cl fp => (hg s H C cl fp).pe) (fun s H C cl fp => (ht s H C cl fp).pe) (fun s H C cl fp => (he s H C cl fp).fz.pe) hs,
    fun G ds σ H E D R q L => i2 G ds σ H _ _ R q fun ev ds1 v G1 H1 q1 R1 x1 r1 n1 => stv_ok L hin q1 R1 x1 r1 n1⟩
end

/-! ### a def's body keeps its contract -/
def okA : List Sl → List Bool → Prop
  | [], [] => True
  | .ow _ :: as, b :: bs => b = true ∧ okA as bs
  | .fz _ :: as, _ :: bs => okA as bs
  | .no :: as, _ :: bs => okA as bs
  | _, _ => False
def okAP : List Sl → List Bool → Prop → Prop
  | [], [], P => P
  | .ow _ :: as, true :: bs, P => okAP as bs P
  | .fz _ :: as, _ :: bs, P => okAP as bs P
  | .no :: as, _ :: bs, P => okAP as bs P
  | _, _, _ => False
theorem okAP_e : ∀ {as : List Sl} {bs : List Bool} {P : Prop}, okAP as bs P → okA as bs ∧ P
  | [], [], _, h => ⟨trivial, h⟩
  | [], _ :: _, _, h => h.elim
  | .ow _ :: as, true :: bs, _, h => ⟨⟨rfl, (okAP_e (as := as) h).1⟩, (okAP_e (as := as) h).2⟩
  | .ow _ :: as, false :: bs, _, h => h.elim
  | .fz _ :: as, b :: bs, _, h => okAP_e (as := as) (bs := bs) h
  | .no :: as, b :: bs, _, h => okAP_e (as := as) (bs := bs) h
  | .ow _ :: _, [], _, h => h.elim
  | .fz _ :: _, [], _, h => h.elim
  | .no :: _, [], _, h => h.elim
def backA : List Sl → DS → List Sl
  | [], _ => []
  | .ow _ :: as, s :: ds => s :: backA as ds
  | .ow _ :: as, [] => .no :: backA as []
  | .fz d :: as, _ :: ds => .fz d :: backA as ds
  | .fz d :: as, [] => .fz d :: backA as []
  | .no :: as, _ :: ds => .no :: backA as ds
  | .no :: as, [] => .no :: backA as []
def retOk (e : Ev) (Q : Prop) : Prop := match e with
  | .at_ _ => False
  | .val _ => Q
  | .fresh _ => Q
def runF (bs : List Bool) (m : Nat) (body : DSt) : DSp := fun as Q => okAP as bs <| body { nx := fun ds => Q (.val .none) (backA as ds), rt := fun ev ds => retOk ev (Q ev (backA as ds)) } (as ++ List.replicate m .no)
/-- the places of the parameters that may be lent -/
def pnOf : Nat → List Bool → List Nat
  | _, [] => []
  | k, true :: bs => k :: pnOf (k + 1) bs
  | k, false :: bs => pnOf (k + 1) bs
theorem pnOf_mem : ∀ {bs : List Bool} {k i : Nat}, bs[i]? = some true → k + i ∈ pnOf k bs
  | [], _, _, h => by simp at h
  | b :: bs, k, 0, h => by simp at h; subst h; exact List.mem_cons_self
  | b :: bs, k, i + 1, h => by
    have := pnOf_mem (bs := bs) (k := k + 1) (i := i) (by simpa using h)
    have e : k + 1 + i = k + (i + 1) := by omega
    rw [e] at this
    cases b with
    | true => exact List.mem_cons_of_mem _ this
    | false => exact this
theorem okA_len : ∀ {as : List Sl} {bs : List Bool}, okA as bs → as.length = bs.length
  | [], [], _ => rfl
  | [], _ :: _, h => h.elim
  | .ow _ :: as, b :: bs, h => congrArg (· + 1) (okA_len h.2)
  | .fz _ :: as, b :: bs, h => congrArg (· + 1) (okA_len (as := as) (bs := bs) h)
  | .no :: as, b :: bs, h => congrArg (· + 1) (okA_len (as := as) (bs := bs) h)
  | .ow _ :: _, [], h => h.elim
  | .fz _ :: _, [], h => h.elim
  | .no :: _, [], h => h.elim
theorem okA_ow : ∀ {as : List Sl} {bs : List Bool} {i : Nat} {d : D}, okA as bs → as[i]? = some (.ow d) → bs[i]? = some true
  | [], _, _, _, _, h => by simp at h
  | _ :: _, [], _, _, h, _ => by
    exfalso
    rename_i a as i d h'
    cases a <;> exact h
  | .ow _ :: as, b :: bs, 0, d, h, _ => by simp [h.1]
  | .fz _ :: as, b :: bs, 0, d, h, e => by simp at e
  | .no :: as, b :: bs, 0, d, h, e => by simp at e
  | .ow _ :: as, b :: bs, i + 1, d, h, e => by simpa using okA_ow (as := as) h.2 (by simpa using e)
  | .fz _ :: as, b :: bs, i + 1, d, h, e => by simpa using okA_ow (as := as) (bs := bs) h (by simpa using e)
  | .no :: as, b :: bs, i + 1, d, h, e => by simpa using okA_ow (as := as) (bs := bs) h (by simpa using e)
theorem backA_len : ∀ (as : List Sl) (ds : DS), (backA as ds).length = as.length
  | [], ds => by unfold backA; rfl
  | .ow _ :: as, [] => congrArg (· + 1) (backA_len as [])
  | .fz _ :: as, [] => congrArg (· + 1) (backA_len as [])
  | .no :: as, [] => congrArg (· + 1) (backA_len as [])
  | .ow _ :: as, s :: ds => congrArg (· + 1) (backA_len as ds)
  | .fz _ :: as, s :: ds => congrArg (· + 1) (backA_len as ds)
  | .no :: as, s :: ds => congrArg (· + 1) (backA_len as ds)
theorem backA_get : ∀ {as : List Sl} {ds : DS} {i : Nat} {s : Sl}, (backA as ds)[i]? = some s → (∃ d, as[i]? = some (.ow d) ∧ (ds[i]? = some s ∨ s = .no)) ∨ (as[i]? = some s ∧ ∀ d, s ≠ .ow d)
  | [], ds, i, s, h => by unfold backA at h; simp at h
  | .ow d :: as, [], 0, s, h => by simp [backA] at h; subst h; exact .inl ⟨d, rfl, .inr rfl⟩
  | .fz d :: as, [], 0, s, h => by simp [backA] at h; subst h; exact .inr ⟨rfl, fun _ z => nomatch z⟩
  | .no :: as, [], 0, s, h => by simp [backA] at h; subst h; exact .inr ⟨rfl, fun _ z => nomatch z⟩
  | .ow d :: as, [], i + 1, s, h => by simpa using backA_get (as := as) (ds := []) (i := i) (by simpa [backA] using h)
  | .fz d :: as, [], i + 1, s, h => by simpa using backA_get (as := as) (ds := []) (i := i) (by simpa [backA] using h)
  | .no :: as, [], i + 1, s, h => by simpa using backA_get (as := as) (ds := []) (i := i) (by simpa [backA] using h)
  | .ow d :: as, t :: ds, 0, s, h => by simp [backA] at h; subst h; exact .inl ⟨d, rfl, .inl rfl⟩
  | .fz d :: as, t :: ds, 0, s, h => by simp [backA] at h; subst h; exact .inr ⟨rfl, fun _ z => nomatch z⟩
  | .no :: as, t :: ds, 0, s, h => by simp [backA] at h; subst h; exact .inr ⟨rfl, fun _ z => nomatch z⟩
  | .ow d :: as, t :: ds, i + 1, s, h => by simpa using backA_get (as := as) (ds := ds) (i := i) (by simpa [backA] using h)
  | .fz d :: as, t :: ds, i + 1, s, h => by simpa using backA_get (as := as) (ds := ds) (i := i) (by simpa [backA] using h)
  | .no :: as, t :: ds, i + 1, s, h => by simpa using backA_get (as := as) (ds := ds) (i := i) (by simpa [backA] using h)
/-- the slots at a def's entry -/
theorem start_rel {K : PySem.W.Frag} {G : Hp} {as : List Sl} {vs : List V} {H : Hp} {N : List Str} {m : Nat} (R : Rel K G as (vs.map some) H) (hN : N.length = vs.length + m) : Rel K G (as ++ List.replicate m .no) (L2.start N vs) H ∧ Ext as (vs.map some) G H (as ++ List.replicate m .no) (L2.start N vs) G H := by
  have la : as.length = vs.length := by rw [R.len, List.length_map]
  have e : N.length - vs.length = m := by omega
  have st : L2.start N vs = vs.map some ++ List.replicate m none := by unfold L2.start; rw [e]
  have gl : ∀ {i : Nat} {s : Sl}, (as ++ List.replicate m Sl.no)[i]? = some s → s = .no ∨ (i < as.length ∧ as[i]? = some s) := fun {i s} h => by
    by_cases hi : i < as.length
    · rw [List.getElem?_append_left hi] at h; exact .inr ⟨hi, h⟩
    · rw [List.getElem?_append_right (by omega), List.getElem?_replicate] at h
      split at h
      · cases h; exact .inl rfl
      · cases h
  have sl : ∀ {i : Nat}, i < as.length → (L2.start N vs)[i]? = (vs.map some)[i]? := fun {i} hi => by
    rw [st, List.getElem?_append_left (by rw [List.length_map]; omega)]
  have own : ∀ {i : Nat} {a : Addr}, OwAt (as ++ List.replicate m .no) (L2.start N vs) i a → OwAt as (vs.map some) i a := fun {i a} ⟨⟨d, e⟩, s⟩ => by
    rcases gl e with q | ⟨q1, q2⟩
    · cases q
    · rw [sl q1] at s; exact ⟨⟨d, q2⟩, s⟩
  refine ⟨⟨R.sub, by rw [st]; simp [la], fun i d h => ?_, fun i d h => ?_, fun i j a p q => R.ap i j a (own p) (own q)⟩, ⟨Same.refl G, fun _ _ h _ => h, fun b o h n => (by rw [n] at h; cases h), fun b ⟨i, z⟩ => .inl ⟨i, own z⟩⟩⟩
  · rcases gl h with q | ⟨q1, q2⟩
    · cases q
    · rw [sl q1]; exact R.fz i d q2
  · rcases gl h with q | ⟨q1, q2⟩
    · cases q
    · rw [sl q1]; exact R.ow i d q2
/-- what is handed back -/
theorem back_rel {K : PySem.W.Frag} {G0 : Hp} {as : List Sl} {vs : List V} {H0 : Hp} {N : List Str} {m : Nat} {bs : List Bool} (R0 : Rel K G0 as (vs.map some) H0) (hN : N.length = vs.length + m) (ho : okA as bs) {G : Hp} {ds : DS} {σ : St} {H : Hp} (R : Rel K G ds σ H)
    (x : Ext as (vs.map some) G0 H0 ds σ G H) (p : Pin (pnOf 0 bs) (L2.start N vs) σ) : Rel K G (backA as ds) (vs.map some) H ∧ Ext as (vs.map some) G0 H0 (backA as ds) (vs.map some) G H ∧ ∀ a, Owns (backA as ds) (vs.map some) a → Owns ds σ a := by
  have la : as.length = vs.length := by rw [R0.len, List.length_map]
  have e : N.length - vs.length = m := by omega
  have st : L2.start N vs = vs.map some ++ List.replicate m none := by unfold L2.start; rw [e]
  have at_s : ∀ {i : Nat} {d : D}, as[i]? = some (.ow d) → σ[i]? = (vs.map some)[i]? := fun {i d} h => by
    have hi : i < as.length := (List.getElem?_eq_some_iff.mp h).1
    have := p (0 + i) (pnOf_mem (okA_ow ho h))
    rw [Nat.zero_add] at this
    rw [this, st, List.getElem?_append_left (by rw [List.length_map]; omega)]
  have own : ∀ {i : Nat} {a : Addr}, OwAt (backA as ds) (vs.map some) i a → OwAt ds σ i a := fun {i a} ⟨⟨d, e⟩, s⟩ => by
    rcases backA_get e with ⟨d', h1, h2 | h2⟩ | ⟨h1, h2⟩
    · exact ⟨⟨d, h2⟩, by rw [at_s h1]; exact s⟩
    · cases h2
    · exact absurd rfl (h2 d)
  refine ⟨⟨R.sub, by rw [backA_len]; exact R0.len, fun i d e => ?_, fun i d e => ?_, fun i j a p q => R.ap i j a (own p) (own q)⟩, ⟨x.gg, x.fr, x.nw, fun b ⟨i, z⟩ => x.ow b ⟨i, own z⟩⟩, fun a ⟨i, z⟩ => ⟨i, own z⟩⟩
  · rcases backA_get e with ⟨d', h1, h2 | h2⟩ | ⟨h1, h2⟩
    · obtain ⟨v, g1, g2⟩ := R.fz i d h2
      exact ⟨v, by rw [← at_s h1]; exact g1, g2⟩
    · cases h2
    · obtain ⟨v, g1, g2⟩ := R0.fz i d h1
      exact ⟨v, g1, Dp.mo x.gg _ _ g2⟩
  · rcases backA_get e with ⟨d', h1, h2 | h2⟩ | ⟨h1, h2⟩
    · obtain ⟨a, o, g1, g2⟩ := R.ow i d h2
      exact ⟨a, o, by rw [← at_s h1]; exact g1, g2⟩
    · cases h2
    · exact absurd rfl (h2 d)
section
variable {P : Program} {w : World} {K : PySem.W.Frag} {mg : Str → Option Value} {base : Heap}
/-- the context of a def's body -/
abbrev cxB (P : Program) (w : World) (K : PySem.W.Frag) (mg : Str → Option Value) (base : Heap) (N : List Str) (qual : Str) (st : Stmt) (f : Addr) (cdv : Value) (A : Around) (outer : List Env) (s : Shared) (H : Hp) (E : XK) : Cx := (cxOf CX0 P w K mg base N qual (defScope st) f cdv A outer s H E).nox
theorem def_ok {x qual : Str} {st : Stmt} {f : Addr} {fd : FuncData} {N ps : List Str} {k m : Nat} {bs : List Bool} {body : DSt} (F : Fun K x qual st f fd) (S : FnScope N ps (defScope st)) (hb : bs.length = ps.length) (hN : N.length = ps.length + m)
    (h : ∀ (cdv : Value) (A : Around) (outer : List Env) (s : Shared) (H : Hp) (E : XK), Room k (cxB P w K mg base N qual st f cdv A outer s H E).A → PVB (cxB P w K mg base N qual st f cdv A outer s H E) (pnOf 0 bs) (defBody st) body) :
    FnOk P w K mg base CX0 (k + 1) f fd ps (spD K bs.length (runF bs m body)) := by
  refine F.ok S (fun vs H Q E h => ?_) (fun cdv A outer s H vs Q E hr hs => ?_)
  · obtain ⟨G, as, DQ, hn, R, _⟩ := h
    have := R.len
    rw [List.length_map] at this
    omega
  · obtain ⟨G, as, DQ, hn, R, q, kk⟩ := hs
    obtain ⟨ho, q⟩ := okAP_e q
    have lv : vs.length = ps.length := by
      have := R.len
      rw [List.length_map] at this
      omega
    have hN' : N.length = vs.length + m := by omega
    obtain ⟨t, h1, h2⟩ := h cdv A outer s H E hr
    obtain ⟨R1, x1⟩ := start_rel R hN'
    refine ⟨t, h1, h2 G (as ++ List.replicate m Sl.no) (L2.start N vs) H { nx := fun ds => DQ (.val .none) (backA as ds), rt := fun ev ds => retOk ev (DQ ev (backA as ds)) } { nx := fun _ H' => Q .non H', rt := Q } R1 q ⟨fun ds' σ' G' H' q' R' x' p' => ?_, fun ev ds' σ' v G' H' q' R' x' p' r' n' => ?_, fun _ _ _ _ q' _ _ _ => q'.elim, fun _ _ _ _ q' _ _ _ => q'.elim⟩⟩
    · obtain ⟨R2, x2, o2⟩ := back_rel R hN' ho R' (x1.trans x') p'
      exact kk _ _ _ _ _ q' R2 x2 .non trivial trivial
    · obtain ⟨R2, x2, o2⟩ := back_rel R hN' ho R' (x1.trans x') p'
      have n2 := x1.back n'
      cases ev with
      | val d => exact kk _ _ _ _ _ q' R2 x2 r' trivial trivial
      | fresh d =>
        obtain ⟨a, o, rfl, g1, g2, g3, g4⟩ := r'
        exact kk _ _ _ _ _ q' R2 x2 ⟨a, o, rfl, g1, g2, g3, fun z => g4 (o2 a z)⟩ n2 trivial
      | at_ i => exact (show False from q').elim
end
end PV
end
section
set_option Elab.async false
set_option linter.all false
set_option maxRecDepth 100000
set_option maxHeartbeats 4000000
namespace PV
open PySem L2
section
variable {X : Cx} {pos p : Pos}
/-! ### list(range(..)) -/
abbrev DR := DS → (Int → Int → DS → Prop) → Prop
def PVR (X : Cx) (e : Expr) (f : DR) : Prop := ∃ t, PRg X e t ∧ ∀ (G : Hp) (ds : DS) (σ : St) (H : Hp) (DQ : Int → Int → DS → Prop) (Q : Int → Int → Hp → Prop), Rel X.K G ds σ H → f ds DQ →
  (∀ a b ds' G' H', DQ a b ds' → Rel X.K G' ds' σ H' → Ext ds σ G H ds' σ G' H' → Q a b H') → t σ H Q
def intD (d : D) (Q : Int → Prop) : Prop := match d with
  | .int i => Q i
  | _ => False
theorem intD_v {d : D} {Q : Int → Prop} (h : intD d Q) : ∃ i, d = .int i ∧ Q i := by
  unfold intD at h
  split at h
  · exact ⟨_, rfl, h⟩
  · exact h.elim
def rg1 (f : DE) : DR := fun ds Q => f ds fun e ds1 => rd e ds1 fun d => intD d fun n => Q 0 n ds1
def rg2 (f g : DE) : DR := fun ds Q => f ds fun e1 ds1 => g ds1 fun e2 ds2 => rd (nm e1) ds2 fun d1 => rd e2 ds2 fun d2 => intD d1 fun a => intD d2 fun b => Q a b ds2
theorem pvr_1 {a : Expr} {f : DE} (hg : Gl X "range") (hm : X.mg "range" = none) (ha : PVE X a f) (na : starEach [a] X.env = (false, eval a X.env) :: starEach [] X.env := by rfl) : PVR X (.Call (.Name "range" p) [a] [] pos) (rg1 f) := by
  obtain ⟨t, h1, h2⟩ := ha
  refine ⟨_, prg_1 hg hm h1 na, fun G ds σ H DQ Q R q k => h2 G ds σ H _ _ R q fun ev ds1 v G1 H1 q1 R1 x1 r1 n1 => ?_⟩
  obtain ⟨d, s, q2⟩ := rd_sh R1 r1 q1
  obtain ⟨i, rfl, q3⟩ := intD_v q2
  exact ⟨i, s.int, k _ _ _ _ _ q3 R1 x1⟩
theorem pvr_2 {a b : Expr} {f g : DE} (hg : Gl X "range") (hm : X.mg "range" = none) (ha : PVE X a f) (hb : PVE X b g) (na : starEach [a, b] X.env = (false, eval a X.env) :: starEach [b] X.env := by rfl) (nb : starEach [b] X.env = (false, eval b X.env) :: starEach [] X.env := by rfl) (hpl : (backTo pos (starEach [b] X.env)).any (·.1) = false := by rfl) : PVR X (.Call (.Name "range" p) [a, b] [] pos) (rg2 f g) := by
  obtain ⟨ta, tb, h1, h2, hk⟩ := bin_ok ha hb
  refine ⟨_, prg_2 hg hm h1 h2 na nb hpl, fun G ds σ H DQ Q R q k => hk G ds σ H (fun d1 d2 ds2 => intD d1 fun a => intD d2 fun b => DQ a b ds2) _ R q fun x y d1 d2 ds' G' H' q' R' x' sx sy => ?_⟩
  obtain ⟨i, rfl, q2⟩ := intD_v q'
  obtain ⟨j, rfl, q3⟩ := intD_v q2
  exact ⟨i, j, sx.int, sy.int, k _ _ _ _ _ q3 R' x'⟩
theorem rgV_dp {K : PySem.W.Frag} {G : Hp} (a b : Int) : DpAll K G (rgV a b) (rngD a (b - a).toNat) := by
  have e : rgV a b = ((List.range (b - a).toNat).map fun k : Nat => a + (k : Int)).map V.int := by
    unfold rgV
    rw [List.map_map]; rfl
  have e2 : rngD a (b - a).toNat = ((List.range (b - a).toNat).map fun k : Nat => a + (k : Int)).map PyData.int := by
    unfold rngD
    rw [List.map_map]; rfl
  rw [e, e2]
  exact DpAll.ints _
def okRg (a b : Int) : Prop := bnd62 a ∧ bnd62 b ∧ b - a ≤ 16777216
theorem okRg_v {a b : Int} (h : okRg a b) : RgOk a b := by
  obtain ⟨⟨h1, h2⟩, ⟨h3, h4⟩, h5⟩ := h
  exact ⟨h1, h2, h3, h4, by omega⟩
def eLRg (f : DR) : DE := fun ds Q => f ds fun a b ds1 => okRg a b ∧ Q (.fresh (.list (rngD a (b - a).toNat))) ds1
def eTRg (f : DR) : DE := fun ds Q => f ds fun a b ds1 => okRg a b ∧ Q (.val (.tuple (rngD a (b - a).toNat))) ds1
theorem pve_listRg {e : Expr} {f : DR} (hc : X.calm = true) (hg : Gl X "list") (hm : X.mg "list" = none) (h : PVR X e f) (na : starEach [e] X.env = (false, eval e X.env) :: starEach [] X.env := by rfl) : PVE X (.Call (.Name "list" p) [e] [] pos) (eLRg f) := by
  obtain ⟨t, h1, h2⟩ := h
  refine ⟨_, pe_listRg hc hg hm h1 na, fun G ds σ H DQ Q R q k => h2 G ds σ H _ _ R q fun a b ds1 G1 H1 q1 R1 x1 => ⟨okRg_v q1.1, fun q hq => ?_⟩⟩
  obtain ⟨z1, z2, z3, z4⟩ := new_list R1 (rgV_dp a b) hq
  exact k _ _ _ _ _ q1.2 z1 (x1.trans z2) z3 (x1.back z4)
theorem pve_tupRg {e : Expr} {f : DR} (hc : X.calm = true) (hg : Gl X "tuple") (hm : X.mg "tuple" = none) (h : PVR X e f) (na : starEach [e] X.env = (false, eval e X.env) :: starEach [] X.env := by rfl) : PVE X (.Call (.Name "tuple" p) [e] [] pos) (eTRg f) := by
  obtain ⟨t, h1, h2⟩ := h
  refine ⟨_, pe_tupRg hc hg hm h1 na, fun G ds σ H DQ Q R q k => h2 G ds σ H _ _ R q fun a b ds1 G1 H1 q1 R1 x1 => ⟨okRg_v q1.1, fun q hq => ?_⟩⟩
  obtain ⟨z1, z2, z3⟩ := new_tup R1 (rgV_dp a b) hq
  exact k _ _ _ _ _ q1.2 z1 (x1.trans z2) z3 trivial
/-! ### isinstance(x, T) -/
def tyName : D → String
  | .none => "NoneType"
  | .bool _ => "bool"
  | .int _ => "int"
  | .str _ => "str"
  | .list _ => "list"
  | .tuple _ => "tuple"
  | .dict _ => "dict"
def isI (T : String) (d : D) : Bool := tyName d == T || (T == "int" && tyName d == "bool")
theorem tyX_of {K : PySem.W.Frag} {G H : Hp} {v : V} {d : D} (s : Same G H) (h : Sh K G H v d) : TyX K H v (.type (tyName d)) := by
  cases d with
  | none => rw [h.non]; exact .base .non
  | bool b => rw [h.bool]; exact .base (.bl b)
  | int i => rw [h.int]; exact .base (.int i)
  | str x => rw [h.str]; exact .base (.str x)
  | list l =>
    obtain ⟨a, vs, rfl, h1, h2⟩ := h.list s
    rcases h1 with (h1 | ⟨o, h1⟩) | ⟨o, its, n, hk, hc, _⟩
    · exact .base (.lst h1)
    · exact .base (.frz h1)
    · exact .kList hk hc
  | tuple l =>
    obtain ⟨a, vs, rfl, h1, h2⟩ := h.tuple s
    rcases h1 with (h1 | ⟨o, h1⟩) | ⟨o, its, n, hk, hc, _⟩
    · exact .base (.tup h1)
    · exact .fTuple h1
    · exact .kTuple hk hc
  | dict l =>
    rcases h with h | ⟨a, o, rfl, h, q⟩
    · cases h
    · cases o <;> exact False.elim q
/-- the answers of isinstance for the kinds of data -/
def kits (T : String) : Bool := ["NoneType", "bool", "int", "str", "list", "tuple", "dict"].all fun a => kitB a T == some (a == T || (T == "int" && a == "bool"))
theorem kits_v {K : PySem.W.Frag} {T : String} (h : kits T = true) (d : D) : PySem.W.kitOne K (.type (tyName d)) (.type T) = some (isI T d) := by
  have := (List.all_eq_true.mp h) (tyName d) (by cases d <;> simp [tyName])
  exact kit_ty (by simpa [isI] using this)
def eIsi (T : String) (f : DE) : DE := fun ds Q => f ds fun e ds1 => rd e ds1 fun d => Q (.val (.bool (isI T d))) ds1
theorem pve_isi {a : Expr} {f : DE} {T : String} {x : Str} {p2 : Pos} (hg : Gl X "isinstance") (hm : X.mg "isinstance" = none) (ha : PVE X a f) (hT : PE X (.Name x p2) (tC (.ty T))) (hk : kits T = true)
    (he : starEach [a, .Name x p2] X.env = (false, eval a X.env) :: starEach [.Name x p2] X.env := by rfl) (he2 : starEach [.Name x p2] X.env = (false, eval (.Name x p2) X.env) :: starEach [] X.env := by rfl) (hpl : (backTo pos (starEach [.Name x p2] X.env)).any (·.1) = false := by rfl) :
    PVE X (.Call (.Name "isinstance" p) [a, .Name x p2] [] pos) (eIsi T f) := by
  obtain ⟨t, h1, h2⟩ := ha
  refine ⟨_, pe_callB call_isi hg hm (by decide +kernel) (pa_cons h1 (pa_cons hT pa_nil he2) he) (by decide) (by decide) he hpl, fun G ds σ H DQ Q R q k => h2 G ds σ H _ _ R q fun ev ds1 v G1 H1 q1 R1 x1 r1 n1 => ?_⟩
  obtain ⟨d, s, q2⟩ := rd_sh R1 r1 q1
  exact ⟨v, .ty T, _, _, _, rfl, .ty T, tyX_of R1.sub s, kits_v hk d, k _ _ _ _ _ q2 R1 x1 (.bl _) trivial⟩
end

/-! ### side conditions in short -/
theorem un_of {X : Cx} {k : Nat} (h : Room k X.A) : X.A.units + 64 < cLine := h.units
theorem blk_by (N : List Str) (sc : Scope) {scope : Scope} {own : List (Str × Nat)} (h : blkC N sc scope own = true) : blkC N sc scope own = true := h
section
variable {X : Cx} {pn : List Nat} {pos : Pos}
/-- x = e, e no comprehension (or x a cell) -/
theorem aSet {i : Nat} {x : Str} {e : Expr} {fe : DE} {pos' : Pos} (hN : X.N.Nodup) (h : PVE X e fe) (hi : X.N[i]? = some x := by rfl) (hp : i ∉ pn := by decide) (hx : Loc X.env.scope x := by first | exact Or.inl rfl | exact Or.inr rfl)
    (hs : swapsWith e (some (.Name x pos')) pos.line X.env = pure false := by rfl) (hf : X.fn x = true ∨ X.env.scope.names.lookup x = some .local := by first | exact .inl rfl | exact .inr rfl) : PVS X pn (.Assign [.Name x pos'] e pos) (sSet i fe) :=
  pvs_set h hp fun te ht => ps_set hN hi hx ht hs hf
theorem aAug {i : Nat} {x : Str} {e : Expr} {fe : DE} {op : Operator} {dop : DOp} {pos' : Pos} (hN : X.N.Nodup) (ho : OpV X (inplaceOp op) dop) (h : PVE X e fe) (hi : X.N[i]? = some x := by rfl) (hp : i ∉ pn := by decide) (hx : Loc X.env.scope x := by first | exact Or.inl rfl | exact Or.inr rfl)
    (hf : X.fn x = true ∨ X.env.scope.names.lookup x = some .local := by first | exact .inl rfl | exact .inr rfl) : PVS X pn (.AugAssign (.Name x pos') op e pos) (sAug i dop fe) :=
  pvs_aug ho h hp fun te ti ht hti => ps_aug hN hi hx ht hti hf
theorem aPar {i j : Nat} {x y : Str} {a b : Expr} {fa : DA} {px py pt : Pos} {kt k2 pt2} (hc : X.calm = true) (hN : X.N.Nodup) (ha : PVA X [a, b] fa) (hi : X.N[i]? = some x := by rfl) (hj : X.N[j]? = some y := by rfl) (hij : i ≠ j := by decide) (hpi : i ∉ pn := by decide) (hpj : j ∉ pn := by decide)
    (hx : X.env.scope.names.lookup x = some .local := by rfl) (hy : X.env.scope.names.lookup y = some .local := by rfl)
    (hw : swappedStores [.Tuple [.Name x px, .Name y py] kt pt] (.Tuple [a, b] k2 pt2) X.env = pure (some [x, y]) := by rfl) (hs : swapsWithSole [.Tuple [.Name x px, .Name y py] kt pt] (.Tuple [a, b] k2 pt2) pos.line X.env = pure false := by rfl) :
    PVS X pn (.Assign [.Tuple [.Name x px, .Name y py] kt pt] (.Tuple [a, b] k2 pt2) pos) (sPar i j fa) :=
  pvs_par ha hpi hpj fun ta hta => ps_par hc hN hi hj hij hx hy hta hw hs
theorem aName {sl : List Nat} {i : Nat} {x : Str} (hN : X.N.Nodup) (hi : X.N[i]? = some x := by rfl) (hs : i ∈ sl := by decide) (hx : Loc X.env.scope x := by first | exact Or.inl rfl | exact Or.inr rfl) (hf : X.fn x = true ∨ X.env.scope.names.lookup x = some .local := by first | exact .inl rfl | exact .inr rfl) : PVG X sl (.Name x pos) (gN i) :=
  pvg_name (pg_name hN hi hx hf) hs
theorem iopv_add : OpV X (inplaceOp .Add) (oI0 fun a b => .int (a + b)) := opv_i0 iop_add fun _ _ _ => .int _
theorem iopv_sub : OpV X (inplaceOp .Sub) (oI0 fun a b => .int (a - b)) := opv_i0 iop_sub fun _ _ _ => .int _
end
end PV
namespace PV
open PySem L2
/-- the law's own call -/
theorem law_in {f : DSp} (h : ∀ ns : List Int, ns.length ≤ 63 → f [.fz (.list (ns.map PyData.int))] fun ev _ => ev = .val (.bool true)) {K : PySem.W.Frag} {H : Hp} {a : Addr} {ns : List Int} (hl : ns.length ≤ 63) (hS : SqL K H a (ns.map V.int)) {E : XK} :
    spD K 1 f [.ref a] H (fun v _ => v = .bl true) E := by
  have hd : Dp K H (.ref a) (.list (ns.map PyData.int)) := .lst hS (DpAll.ints ns)
  refine ⟨H, [.fz (.list (ns.map PyData.int))], _, rfl, ⟨Same.refl H, rfl, fun i d e => ?_, fun i d e => ?_, fun i j b p q => ?_⟩, h ns hl, fun ev as' v G' H' q R x r n na => ?_⟩
  · cases i with
    | zero => simp at e; subst e; exact ⟨.ref a, rfl, hd⟩
    | succ i => simp at e
  · cases i with
    | zero => simp at e
    | succ i => simp at e
  · obtain ⟨⟨d, e⟩, _⟩ := p
    cases i with
    | zero => simp at e
    | succ i => simp at e
  · subst q
    have r : Dp K G' v (.bool true) := r
    cases r
    rfl
end PV
end
section
set_option Elab.async false
set_option linter.all false
set_option maxRecDepth 100000
set_option maxHeartbeats 4000000
namespace PV
open PySem L2
/-! ### helpers for proofs over data -/
theorem divW {i j : Int} (h : 0 < j) (h2 : j < 2 ^ 64) : CDivW i j := wide_div (b := 64) h (by omega) (by decide) (by decide)
theorem mulL {i j : Int} (h : -(2 ^ 64) < i) (h2 : i < 2 ^ 64) : CMulA i j := .inl ⟨h, h2⟩
theorem mulR {i j : Int} (h : -(2 ^ 64) < j) (h2 : j < 2 ^ 64) : CMulA i j := .inr (.inl ⟨h, h2⟩)
theorem atD_i {α : Type} {xs : List α} {i : Int} {Q : α → Prop} {x : α} (h0 : 0 ≤ i) (h : xs[i.toNat]? = some x) (q : Q x) : atD xs i Q := by
  have : atI xs i = some x := by
    have := atI_nat h
    rw [show ((i.toNat : Nat) : Int) = i by omega] at this
    exact this
  unfold atD
  rw [this]
  exact q
theorem ixD_i {len : Nat} {n : Int} {k : Nat → Prop} (h0 : 0 ≤ n) (h1 : n < len) (q : k n.toNat) : ixD len n k := by
  have e : ixN len n = some n.toNat := by
    unfold ixN
    rw [if_pos h0, if_pos h1]
  unfold ixD
  rw [e]
  exact q
theorem ixD_nat {len j : Nat} {k : Nat → Prop} (h1 : j < len) (q : k j) : ixD len (j : Int) k := ixD_i (Int.natCast_nonneg j) (by omega) (by rw [Int.toNat_natCast]; exact q)
theorem oEq_i {d1 d2 : D} {Q : Ev → Prop} (b : Bool) (e : PyData.eqv d1 d2 = b) (h : min d1.depth d2.depth ≤ 60) (q : Q (.val (.bool b))) : oEq d1 d2 Q := by
  unfold oEq; rw [e]; exact ⟨h, q⟩
theorem oNe_i {d1 d2 : D} {Q : Ev → Prop} (b : Bool) (e : (!PyData.eqv d1 d2) = b) (h : min d1.depth d2.depth ≤ 60) (q : Q (.val (.bool b))) : oNe d1 d2 Q := by
  unfold oNe; rw [e]; exact ⟨h, q⟩
theorem oIn_i {d1 d2 : D} {ds : List D} {Q : Ev → Prop} (b : Bool) (hd : d2 = .list ds ∨ d2 = .tuple ds) (e : (ds.any fun z => PyData.eqv z d1) = b) (h : min (PyData.depthAll ds) d1.depth ≤ 60) (q : Q (.val (.bool b))) : oIn d1 d2 Q := by
  unfold oIn
  rcases hd with rfl | rfl
  · exact ⟨h, by rw [e]; exact q⟩
  · exact ⟨h, by rw [e]; exact q⟩
theorem oNotIn_i {d1 d2 : D} {ds : List D} {Q : Ev → Prop} (b : Bool) (hd : d2 = .list ds ∨ d2 = .tuple ds) (e : (!ds.any fun z => PyData.eqv z d1) = b) (h : min (PyData.depthAll ds) d1.depth ≤ 60) (q : Q (.val (.bool b))) : oNotIn d1 d2 Q := by
  unfold oNotIn
  rcases hd with rfl | rfl
  · exact ⟨h, by rw [e]; exact q⟩
  · exact ⟨h, by rw [e]; exact q⟩
theorem depth_int (i : Int) : (PyData.int i).depth = 0 := by simp [PyData.depth]
theorem depth_str (i : Str) : (PyData.str i).depth = 0 := by simp [PyData.depth]
theorem depth_bool (i : Bool) : (PyData.bool i).depth = 0 := by simp [PyData.depth]
theorem depth_none : (PyData.none).depth = 0 := by simp [PyData.depth]
theorem eqv_int (a b : Int) : PyData.eqv (.int a) (.int b) = decide (a = b) := by
  show (a == b) = decide (a = b)
  by_cases h : a = b
  · subst h; simp
  · simp [h]
theorem eqv_str (a b : Str) : PyData.eqv (.str a) (.str b) = decide (a = b) := by
  show (a == b) = decide (a = b)
  by_cases h : a = b
  · subst h; simp
  · simp [h]
theorem eqvAll_ints : ∀ (a b : List Int), PyData.eqvAll (a.map PyData.int) (b.map PyData.int) = decide (a = b)
  | [], [] => by simp [PyData.eqvAll]
  | [], _ :: _ => by simp [PyData.eqvAll]
  | _ :: _, [] => by simp [PyData.eqvAll]
  | x :: a, y :: b => by
    rw [List.map_cons, List.map_cons, PyData.eqvAll, eqvAll_ints a b, eqv_int]
    simp [Bool.decide_and]
theorem eqv_ints (a b : List Int) : PyData.eqv (.tuple (a.map PyData.int)) (.tuple (b.map PyData.int)) = decide (a = b) := eqvAll_ints a b
theorem eqv_intsL (a b : List Int) : PyData.eqv (.list (a.map PyData.int)) (.list (b.map PyData.int)) = decide (a = b) := eqvAll_ints a b
theorem depthAll_ints : ∀ (a : List Int), PyData.depthAll (a.map PyData.int) = 0
  | [] => by simp [PyData.depthAll]
  | x :: a => by rw [List.map_cons, PyData.depthAll, depthAll_ints a, depth_int]; rfl
theorem any_ints (a : List Int) (x : Int) : ((a.map PyData.int).any fun z => PyData.eqv z (.int x)) = decide (x ∈ a) := by
  rw [List.any_map]
  induction a with
  | nil => simp
  | cons b a ih =>
    rw [List.any_cons, ih]
    show (PyData.eqv (.int b) (.int x) || _) = _
    rw [eqv_int]
    simp [eq_comm]
/-- a walk by what holds ahead of each turn -/
theorem forGo_inv {ok : DS → Prop → Prop} {g : DG} {b : DSt} {E : DEn} (I : List D → List D → DS → Prop) (hok : ∀ {pre post ds P}, I pre post ds → P → ok ds P)
    (turn : ∀ pre x post ds (N : DS → Prop), I pre (x :: post) ds → (∀ ds', I (pre ++ [x]) post ds' → N ds') → g x ds fun ds1 => b { E with nx := N, ct := N, bk := E.nx } ds1)
    (fin : ∀ pre ds, I pre [] ds → E.nx ds) : ∀ {xs pre : List D} {ds : DS}, I pre xs ds → forGo ok g b xs E ds
  | [], pre, ds, h => hok h (fin pre ds h)
  | x :: xs, pre, ds, h => hok h (turn pre x xs ds _ h fun ds' h' => forGo_inv I hok turn fin h')
/-- a walk by the turn's number -/
theorem forGo_ix {ok : DS → Prop → Prop} {g : DG} {b : DSt} {E : DEn} {all : List D} (I : Nat → DS → Prop) (hok : ∀ {k ds P}, I k ds → P → ok ds P)
    (turn : ∀ k x ds (N : DS → Prop), all[k]? = some x → I k ds → (∀ ds', I (k + 1) ds' → N ds') → g x ds fun ds1 => b { E with nx := N, ct := N, bk := E.nx } ds1)
    (fin : ∀ ds, I all.length ds → E.nx ds) : ∀ {xs : List D} {k : Nat} {ds : DS}, k ≤ all.length → xs = all.drop k → I k ds → forGo ok g b xs E ds
  | [], k, ds, hk, hx, h => by
    have : k = all.length := by
      have := congrArg List.length hx
      rw [List.length_drop] at this
      simp at this
      omega
    subst this
    exact hok h (fin ds h)
  | x :: xs, k, ds, hk, hx, h => by
    have hlt : k < all.length := by
      have := congrArg List.length hx
      rw [List.length_drop, List.length_cons] at this
      omega
    rw [List.drop_eq_getElem_cons hlt] at hx
    injection hx with h1 h2
    exact hok h (turn k x ds _ (by rw [List.getElem?_eq_getElem hlt, h1]) h fun ds' h' => forGo_ix I hok turn fin hlt h2 h')
theorem rngD_get {lo : Int} {n k : Nat} {x : D} (h : (rngD lo n)[k]? = some x) : k < n ∧ x = .int (lo + k) := by
  unfold rngD at h
  rw [List.getElem?_map] at h
  cases e : (List.range n)[k]? with
  | none => rw [e] at h; cases h
  | some j =>
    rw [e] at h
    have hk : k < n := by simpa using (List.getElem?_eq_some_iff.mp e).1
    rw [List.getElem?_range hk] at e
    cases e
    cases h
    exact ⟨hk, rfl⟩
theorem rngD_len {lo : Int} {n : Nat} : (rngD lo n).length = n := by simp [rngD]
/-- for k in range -/
theorem forGo_rng {g : DG} {b : DSt} {E : DEn} {lo : Int} {n : Nat} {ds : DS} (I : Nat → DS → Prop) (h0 : I 0 ds)
    (turn : ∀ k ds (N : DS → Prop), k < n → I k ds → (∀ ds', I (k + 1) ds' → N ds') → g (.int (lo + k)) ds fun ds1 => b { E with nx := N, ct := N, bk := E.nx } ds1)
    (fin : ∀ ds, I n ds → E.nx ds) : forGo (guard none (rngD lo n)) g b (rngD lo n) E ds := by
  refine forGo_ix (all := rngD lo n) I (fun {k ds P} _ p => p) (fun k x ds N hx hI hN => ?_) (fun ds h => fin ds (by rw [rngD_len] at h; exact h)) (Nat.zero_le _) rfl h0
  obtain ⟨hk, rfl⟩ := rngD_get hx
  exact turn k ds N hk hI hN
/-- over items that are all of one kind -/
theorem lcGo_inv {ok : DS → Prop → Prop} {vs : List Nat} {g : DG} {tt : DT} {te : DF} {Q : List D → DS → Prop} (I : List D → List D → List D → DS → Prop) (hok : ∀ {pre post acc ds P}, I pre post acc ds → P → ok ds P)
    (turn : ∀ pre x post acc ds (N : List D → DS → Prop), I pre (x :: post) acc ds → (∀ acc' ds', I (pre ++ [x]) post acc' ds' → N acc' ds') → g x (wipD ds vs) fun ds1 => tt ds1 fun b ds2 => br b (te ds2 fun d ds3 => acc.length < 16777216 ∧ N (acc ++ [d]) (rstD ds vs ds3)) (N acc (rstD ds vs ds2)))
    (fin : ∀ pre acc ds, I pre [] acc ds → Q acc ds) : ∀ {xs pre acc : List D} {ds : DS}, I pre xs acc ds → lcGo ok vs g tt te xs acc ds Q
  | [], pre, acc, ds, h => hok h (fin pre acc ds h)
  | x :: xs, pre, acc, ds, h => hok h (turn pre x xs acc ds (fun acc' ds' => lcGo ok vs g tt te xs acc' ds' Q) h fun acc' ds' h' => lcGo_inv I hok turn fin h')
end PV
end
section
set_option Elab.async false
set_option linter.all false
set_option maxRecDepth 100000
set_option maxHeartbeats 4000000
namespace PV
open PySem L2
def b_L_begin : DSt :=
  (sRet [0] (eLst (aCons (eLc (iFz (eSl (eVar 0) pNo (pSome (eC (.int 63))))) [1] (gN 1) tTrue (eFz (eBi cInt (aCons (eVar 1) aNil)))) (aCons (eC (.int 0)) (aCons (eC (.int 0)) (aCons (eC (.int 7)) aNil))))))
@[irreducible] def m_L_begin : DSp := runF [true] 1 b_L_begin
def b_L_draw : DSt :=
  (sSeq (sIf (tB (eOp oGt (eIx (eVar 0) (eC (.int 2))) (eC (.int 0)))) (sSeq (sSet 2 (eIx (eVar 0) (eC (.int 2))))
    (sSeq (sSetIx 0 (eOp oDiv (eVar 2) (eVar 1)) (eC (.int 2)))
    (sRet [0, 1] (eOp oMod (eBi cInt (aCons (eVar 2) aNil)) (eVar 1))))) sNil)
    (sSeq (sSet 3 (eIf (tB (eOp oLt (eIx (eVar 0) (eC (.int 1))) (eBi cLen (aCons (eIx (eVar 0) (eC (.int 0))) aNil)))) (eIx (eIx (eVar 0) (eC (.int 0))) (eIx (eVar 0) (eC (.int 1)))) (eC (.int 0))))
    (sSeq (sSet 4 (eOp oAdd (eOp oMul (eC (.int 2)) (eBi cAbs (aCons (eVar 3) aNil))) (eBi cInt (aCons (eOp oLt (eVar 3) (eC (.int 0))) aNil))))
    (sSeq (sAugIx 0 (oI0 fun a b => .int (a + b)) (eC (.int 1)) (eC (.int 1)))
    (sSeq (sIf (tB (eOp oGe (eVar 4) (eOp oMul (eC (.int 2)) (eOp oPow (eC (.int 10)) (eC (.int 18)))))) (sSeq (sSet 2 (eOp oMod (eBi cInt (aCons (eOp oDiv (eVar 4) (eC (.int 2))) aNil)) (eOp oShl (eC (.int 1)) (eC (.int 6000)))))
    (sSeq (sSetIx 0 (eOp oDiv (eVar 2) (eVar 1)) (eC (.int 2)))
    (sRet [0, 1] (eOp oMod (eBi cInt (aCons (eVar 2) aNil)) (eVar 1))))) sNil)
    (sSeq (sSetIx 0 (eOp oMod (eBi cInt (aCons (eOp oAdd (eOp oAdd (eOp oAdd (eOp oMul (eIx (eVar 0) (eC (.int 3))) (eC (.int 48271))) (eOp oMul (eOp oMod (eBi cInt (aCons (eVar 4) aNil)) (eC (.int 2147483629))) (eC (.int 16807)))) (eOp oMul (eIx (eVar 0) (eC (.int 1))) (eC (.int 69621)))) (eC (.int 11))) aNil)) (eC (.int 2147483647))) (eC (.int 3)))
    (sRet [0, 1] (eOp oMod (eBi cInt (aCons (eOp oDiv (eIx (eVar 0) (eC (.int 3))) (eC (.int 16))) aNil)) (eVar 1)))))))))
@[irreducible] def m_L_draw : DSp := runF [true, true] 3 b_L_draw
def b_L_pick : DSt :=
  (sRet [0, 1] (eIx (eVar 1) (eCall m_L_draw 2 [true, false] (aCons (eVar 0) (aCons (eBi cLen (aCons (eVar 1) aNil)) aNil)))))
@[irreducible] def m_L_pick : DSp := runF [true, true] 0 b_L_pick
def b_L_pop : DSt :=
  (sRet [0, 1] (eMut 1 mPop (aCons (eCall m_L_draw 2 [true, false] (aCons (eVar 0) (aCons (eBi cLen (aCons (eVar 1) aNil)) aNil))) aNil)))
@[irreducible] def m_L_pop : DSp := runF [true, true] 0 b_L_pop
def b_L_shuffled : DSt :=
  (sSeq (sSet 2 (eBi cList (aCons (eVar 1) aNil)))
    (sRet [0, 1] (eLc (iRange1 (aCons (eBi cLen (aCons (eVar 1) aNil)) aNil)) [3] (gN 3) tTrue (eFz (eMut 2 mPop (aCons (eCall m_L_draw 2 [true, false] (aCons (eVar 0) (aCons (eBi cLen (aCons (eVar 2) aNil)) aNil))) aNil))))))
@[irreducible] def m_L_shuffled : DSp := runF [true, true] 2 b_L_shuffled
def b_L_is_int : DSt :=
  (sRet [0] (eAnd (eIsi "int" (eVar 0)) (eNot (eIsi "bool" (eVar 0)))))
@[irreducible] def m_L_is_int : DSp := runF [true] 0 b_L_is_int
def b_L_is_ints : DSt :=
  (sRet [0] (eAnd (eIsi "tuple" (eVar 0)) (eBi cAll (aCons (eLc (iSlot 0) [1] (gN 1) tTrue (eFz (eCall m_L_is_int 1 [true] (aCons (eVar 1) aNil)))) aNil))))
@[irreducible] def m_L_is_ints : DSp := runF [true] 1 b_L_is_ints
end PV
end
section
set_option Elab.async false
set_option linter.all false
set_option maxRecDepth 100000
set_option maxHeartbeats 4000000
namespace PV
open PySem L2
local macro_rules | `(tactic| walk_at "w") => `(tactic| (conv => whnf))
/-- the state of the draws -/
def Dr (l : List D) : Prop := ∃ (cells : List Int) (a b c : Int), l = [.list (cells.map PyData.int), .int a, .int b, .int c] ∧ 0 ≤ a
theorem seq_set_cut {i : Nat} {f : DE} {g : DSt} {E : DEn} {ds : DS} (P : Ev → DS → Prop) (h : ∀ Q : Ev → DS → Prop, (∀ ev ds', P ev ds' → Q ev ds') → f ds Q) (k : ∀ ev ds', P ev ds' → stv i ev ds' (g E)) : sSeq (sSet i f) g E ds := h _ k
theorem sNil_i {E : DEn} {ds : DS} (h : E.nx ds) : sNil E ds := h
theorem draw_ok {many : Int} (h0 : 0 < many) (h1 : many < 2 ^ 64) {l : List D} (hl : Dr l) {Q : Ev → List Sl → Prop}
    (k : ∀ r l', 0 ≤ r → r < many → Dr l' → Q (.val (.int r)) [.ow (.list l'), .fz (.int many)]) : m_L_draw [.ow (.list l), .fz (.int many)] Q := by
  obtain ⟨cells, a, b, c, rfl, ha⟩ := hl
  unfold m_L_draw b_L_draw
  walk_at "w"
  refine br_i (fun hb => ?_) (fun hb => ?_)
  · walk_at "w"
    refine ⟨divW h0 h1, ?_⟩
    walk_at "w"
    refine ⟨h0, ?_⟩
    exact k _ _ (Int.emod_nonneg _ (by omega)) (Int.emod_lt_of_pos _ h0) ⟨cells, a, _, c, rfl, ha⟩
  · refine sNil_i ?_
    dsimp only
    refine seq_set_cut (fun ev ds' => ∃ cell : Int, ev = .val (.int cell) ∧ ds' = [Sl.ow (.list [.list (cells.map PyData.int), .int a, .int b, .int c]), .fz (.int many), .no, .no, .no]) (fun Q hQ => ?_) ?_
    · walk_at "w"
      refine br_i (fun hb2 => ?_) (fun hb2 => ?_)
      · have hb2 : a < ((cells.map PyData.int).length : Int) := of_decide_eq_true hb2
        show atD (cells.map PyData.int) a _
        rw [List.length_map] at hb2
        have hj : a.toNat < cells.length := by omega
        refine atD_i (x := .int cells[a.toNat]) ha (by rw [List.getElem?_map, List.getElem?_eq_getElem hj]; rfl) ?_
        exact hQ _ _ ⟨_, rfl, rfl⟩
      · exact hQ _ _ ⟨_, rfl, rfl⟩
    · rintro ev ds' ⟨cell, rfl, rfl⟩
      walk_at "w"
      refine ⟨mulL (by decide) (by decide), ?_⟩
      walk_at "w"
      refine ⟨⟨by decide, by decide, by decide⟩, ?_⟩
      walk_at "w"
      refine ⟨mulL (by decide) (by decide), ?_⟩
      walk_at "w"
      refine br_i (fun hb3 => ?_) (fun hb3 => ?_)
      · walk_at "w"
        refine ⟨divW (by decide) (by decide), ?_⟩
        walk_at "w"
        refine ⟨⟨by decide, by decide, by decide⟩, ?_⟩
        walk_at "w"
        refine ⟨?_, ?_⟩
        · show (0 : Int) < 1 * 2 ^ 6000
          rw [Int.one_mul]
          exact Int.pow_pos (by decide)
        walk_at "w"
        refine ⟨divW h0 h1, ?_⟩
        walk_at "w"
        refine ⟨h0, ?_⟩
        exact k _ _ (Int.emod_nonneg _ (by omega)) (Int.emod_lt_of_pos _ h0) ⟨cells, a + 1, _, c, rfl, by omega⟩
      · walk_at "w"
        refine ⟨mulR (by decide) (by decide), ?_⟩
        walk_at "w"
        refine ⟨show (0 : Int) < 2147483629 by decide, ?_⟩
        walk_at "w"
        refine ⟨mulR (by decide) (by decide), ?_⟩
        walk_at "w"
        refine ⟨mulR (by decide) (by decide), ?_⟩
        walk_at "w"
        refine ⟨show (0 : Int) < 2147483647 by decide, ?_⟩
        walk_at "w"
        refine ⟨divW (by decide) (by decide), ?_⟩
        walk_at "w"
        refine ⟨h0, ?_⟩
        exact k _ _ (Int.emod_nonneg _ (by omega)) (Int.emod_lt_of_pos _ h0) ⟨cells, a + 1, b, _, rfl, by omega⟩
/-- a slot that holds these items -/
inductive Row : Sl → List D → Prop where
  | fl (xs : List D) : Row (.fz (.list xs)) xs
  | ft (xs : List D) : Row (.fz (.tuple xs)) xs
  | ow (xs : List D) : Row (.ow (.list xs)) xs
theorem pick_ok {l : List D} (hl : Dr l) {s : Sl} {xs : List D} (hs : Row s xs) (h0 : xs ≠ []) (h1 : xs.length ≤ 16777216) {Q : Ev → List Sl → Prop}
    (k : ∀ x l', x ∈ xs → Dr l' → Q (.val x) [.ow (.list l'), s]) : m_L_pick [.ow (.list l), s] Q := by
  have hp : 0 < xs.length := List.length_pos_iff.mpr h0
  unfold m_L_pick b_L_pick
  cases hs with
  | fl xs =>
    refine draw_ok (many := (xs.length : Int)) (by omega) (by omega) hl fun r l' hr0 hr1 hl' => ?_
    show atD xs r _
    have hj : r.toNat < xs.length := by omega
    exact atD_i hr0 (List.getElem?_eq_getElem hj) (k _ _ (List.getElem_mem hj) hl')
  | ft xs =>
    refine draw_ok (many := (xs.length : Int)) (by omega) (by omega) hl fun r l' hr0 hr1 hl' => ?_
    show atD xs r _
    have hj : r.toNat < xs.length := by omega
    exact atD_i hr0 (List.getElem?_eq_getElem hj) (k _ _ (List.getElem_mem hj) hl')
  | ow xs =>
    refine draw_ok (many := (xs.length : Int)) (by omega) (by omega) hl fun r l' hr0 hr1 hl' => ?_
    show atD xs r _
    have hj : r.toNat < xs.length := by omega
    exact atD_i hr0 (List.getElem?_eq_getElem hj) (k _ _ (List.getElem_mem hj) hl')
theorem mPop_i {l : List D} {r : Int} {Q : List D → D → Prop} (h0 : 0 ≤ r) (h1 : r < l.length) (h2 : l.length ≤ 16777216) (k : ∀ (hj : r.toNat < l.length), Q (l.eraseIdx r.toNat) l[r.toNat]) : mPop l [.int r] Q := by
  have hj : r.toNat < l.length := by omega
  have e : ixN l.length r = some r.toNat := by unfold ixN; rw [if_pos h0, if_pos h1]
  unfold mPop
  refine ⟨⟨by omega, by omega⟩, ?_⟩
  rw [e]
  simp only [List.getElem?_eq_getElem hj]
  exact k hj
theorem pop_ok {l : List D} (hl : Dr l) {xs : List D} (h0 : xs ≠ []) (h1 : xs.length ≤ 16777216) {Q : Ev → List Sl → Prop}
    (k : ∀ (j : Nat) (hj : j < xs.length) l', Dr l' → Q (.val xs[j]) [.ow (.list l'), .ow (.list (xs.eraseIdx j))]) : m_L_pop [.ow (.list l), .ow (.list xs)] Q := by
  have hp : 0 < xs.length := List.length_pos_iff.mpr h0
  unfold m_L_pop b_L_pop
  refine draw_ok (many := (xs.length : Int)) (by omega) (by omega) hl fun r l' hr0 hr1 hl' => ?_
  walk_at "w"
  exact mPop_i hr0 hr1 h1 fun hj => k _ hj _ hl'
theorem perm_erase {xs : List D} {j : Nat} (hj : j < xs.length) : (xs[j] :: xs.eraseIdx j).Perm xs := by
  induction xs generalizing j with
  | nil => simp at hj
  | cons x xs ih =>
    cases j with
    | zero => exact List.Perm.refl _
    | succ j =>
      have := ih (j := j) (by simpa using hj)
      simp only [List.getElem_cons_succ, List.eraseIdx_cons_succ]
      exact (List.Perm.swap _ _ _).trans (List.Perm.cons _ this)
theorem shuffled_ok {l : List D} (hl : Dr l) {s : Sl} {xs : List D} (hs : Row s xs) (h1 : xs.length ≤ 1000000) {Q : Ev → List Sl → Prop}
    (k : ∀ ys l', ys.Perm xs → Dr l' → Q (.fresh (.list ys)) [.ow (.list l'), s]) : m_L_shuffled [.ow (.list l), s] Q := by
  unfold m_L_shuffled b_L_shuffled
  have key : ∀ E : DEn, (∀ ys l', ys.Perm xs → Dr l' → E.rt (.fresh (.list ys)) [.ow (.list l'), s, .ow (.list []), .no]) →
      (sRet [0, 1] (eLc (iRange1 (aCons (eBi cLen (aCons (eVar 1) aNil)) aNil)) [3] (gN 3) tTrue (eFz (eMut 2 mPop (aCons (eCall m_L_draw 2 [true, false] (aCons (eVar 0) (aCons (eBi cLen (aCons (eVar 2) aNil)) aNil))) aNil))))) E [.ow (.list l), s, .ow (.list xs), .no] := by
    intro E kk
    have go : lcGo (guard none (rngD 0 (xs.length : Int).toNat)) [3] (gN 3) tTrue (eFz (eMut 2 mPop (aCons (eCall m_L_draw 2 [true, false] (aCons (eVar 0) (aCons (eBi cLen (aCons (eVar 2) aNil)) aNil))) aNil))) (rngD 0 (xs.length : Int).toNat) [] [.ow (.list l), s, .ow (.list xs), .no] (fun acc ds => E.rt (.fresh (.list acc)) ds) := by
      refine lcGo_inv (fun pre post acc ds => ∃ l' rest, ds = [.ow (.list l'), s, .ow (.list rest), .no] ∧ Dr l' ∧ rest.length = post.length ∧ (acc ++ rest).Perm xs) (fun {pre post acc ds P} _ p => p) ?_ ?_ (pre := []) ⟨l, xs, rfl, hl, by simp [rngD], by simp⟩
      · rintro pre x post acc ds N ⟨l', rest, rfl, hl', hr, hp⟩ kN
        have hlen := hp.length_eq
        rw [List.length_append] at hlen
        rw [List.length_cons] at hr
        have goal : (eMut 2 mPop (aCons (eCall m_L_draw 2 [true, false] (aCons (eVar 0) (aCons (eBi cLen (aCons (eVar 2) aNil)) aNil))) aNil)) [.ow (.list l'), s, .ow (.list rest), .fz x] (fun e ds1 => frz e ds1 fun d ds3 => acc.length < 16777216 ∧ N (acc ++ [d]) (rstD [.ow (.list l'), s, .ow (.list rest), .no] [3] ds3)) := by
          refine draw_ok (many := (rest.length : Int)) (by omega) (by omega) hl' fun r l2 hr0 hr1 hl2 => ?_
          walk_at "w"
          refine mPop_i hr0 hr1 (by omega) fun hj => ⟨by omega, kN _ _ ⟨l2, rest.eraseIdx r.toNat, rfl, hl2, ?_, ?_⟩⟩
          · rw [List.length_eraseIdx_of_lt hj]; omega
          · rw [List.append_assoc]
            exact (List.Perm.append_left acc (perm_erase hj)).trans hp
        exact goal
      · rintro pre acc ds ⟨l', rest, rfl, hl', hr, hp⟩
        have : rest = [] := List.length_eq_zero_iff.mp hr
        subst this
        rw [List.append_nil] at hp
        exact kk _ _ hp hl'
    cases hs with
    | fl xs => exact ⟨⟨by omega, by omega⟩, go⟩
    | ft xs => exact ⟨⟨by omega, by omega⟩, go⟩
    | ow xs => exact ⟨⟨by omega, by omega⟩, go⟩
  cases hs with
  | fl xs => exact key _ fun ys l' hp hl' => k ys l' hp hl'
  | ft xs => exact key _ fun ys l' hp hl' => k ys l' hp hl'
  | ow xs => exact key _ fun ys l' hp hl' => k ys l' hp hl'
def isIntD : D → Bool
  | .int _ => true
  | _ => false
theorem is_int_ok {d : D} {Q : Ev → List Sl → Prop} (k : Q (.val (.bool (isIntD d))) [.fz d]) : m_L_is_int [.fz d] Q := by
  unfold m_L_is_int b_L_is_int
  cases d <;> exact k
def isIntsD : D → Bool
  | .tuple xs => xs.all isIntD
  | _ => false
/-- a comprehension without tests whose element is a function of the item and leaves the slots -/
theorem lcGo_map {vs : List Nat} {g : DG} {te : DF} {all : List D} {Q : List D → DS → Prop} {ds : DS} (f : D → D) (h : ∀ x ∈ all, ∀ N : D → DS → Prop, (∀ ds', rstD ds vs ds' = ds → N (f x) ds') → g x (wipD ds vs) fun ds1 => te ds1 N) :
    ∀ {xs acc : List D}, (∀ x ∈ xs, x ∈ all) → acc.length + xs.length ≤ 16777216 → Q (acc ++ xs.map f) ds → lcGo (guard none all) vs g tTrue te xs acc ds Q
  | [], acc, _, _, q => by rw [List.map_nil, List.append_nil] at q; exact q
  | x :: xs, acc, hm, hz, q => by
    refine h x (hm x List.mem_cons_self) _ fun ds' e => ?_
    rw [List.length_cons] at hz
    refine ⟨by omega, ?_⟩
    rw [e]
    exact lcGo_map f h (fun y hy => hm y (List.mem_cons_of_mem _ hy)) (by rw [List.length_append, List.length_singleton]; omega) (by rw [List.append_assoc]; exact q)
theorem boolsOf_mapD {f : D → Bool} {xs : List D} {Q : List Bool → Prop} (h : Q (xs.map f)) : boolsOf (xs.map fun x => PyData.bool (f x)) Q := by
  rw [show (xs.map fun x => PyData.bool (f x)) = (xs.map f).map PyData.bool by rw [List.map_map]; rfl]
  exact boolsOf_map.mpr h
theorem is_ints_ok {d : D} {Q : Ev → List Sl → Prop} (hz : ∀ xs, d = .tuple xs → xs.length ≤ 16777216) (k : Q (.val (.bool (isIntsD d))) [.fz d]) : m_L_is_ints [.fz d] Q := by
  unfold m_L_is_ints b_L_is_ints
  cases d with
  | tuple xs =>
    have go : lcGo (guard none xs) [1] (gN 1) tTrue (eFz (eCall m_L_is_int 1 [true] (aCons (eVar 1) aNil))) xs [] [.fz (.tuple xs), .no] (fun acc ds => cAll [.list acc] fun ev => retv [0] ev ds fun ev ds => retOk ev (Q ev (backA [.fz (.tuple xs)] ds))) := by
      refine lcGo_map (fun x => .bool (isIntD x)) (fun x _ N hN => ?_) (fun _ h => h) (by simpa using hz xs rfl) ?_
      · exact is_int_ok (hN _ rfl)
      · refine boolsOf_mapD ?_
        have e : (xs.map isIntD).all (fun b => b) = isIntsD (.tuple xs) := by simp [isIntsD, List.all_map]; rfl
        rw [e]
        exact k
    exact go
  | _ => exact k
theorem begin_ok {ns : List Int} (h : ns.length ≤ 63) {Q : Ev → List Sl → Prop} (k : ∀ l, Dr l → Q (.fresh (.list l)) [.fz (.list (ns.map PyData.int))]) : m_L_begin [.fz (.list (ns.map PyData.int))] Q := by
  unfold m_L_begin b_L_begin
  have e : ∃ ms : List Int, cutG (ns.map PyData.int) none (some 63) = ms.map PyData.int ∧ ms.length ≤ ns.length := by
    refine ⟨cutG ns none (some 63), ?_, ?_⟩
    · unfold cutG; rw [List.length_map, List.map_take, List.map_drop]
    · unfold cutG; rw [List.length_take, List.length_drop]; omega
  obtain ⟨ms, e, hm⟩ := e
  have go : lcGo (guard none (cutG (ns.map PyData.int) none (some 63))) [1] (gN 1) tTrue (eFz (eBi cInt (aCons (eVar 1) aNil))) (cutG (ns.map PyData.int) none (some 63)) [] [.fz (.list (ns.map PyData.int)), .no]
      (fun acc ds => (eLst (fun ds Q => Q [.val (.list acc), .val (.int 0), .val (.int 0), .val (.int 7)] ds)) ds fun ev ds1 => retv [0] ev ds1 fun ev ds => retOk ev (Q ev (backA [.fz (.list (ns.map PyData.int))] ds))) := by
    rw [e]
    refine lcGo_map (fun x => x) (fun x hx N hN => ?_) (fun _ h => h) (by rw [List.length_map]; simp; omega) ?_
    · obtain ⟨i, _, rfl⟩ := List.mem_map.mp hx
      exact hN _ rfl
    · rw [List.map_id', List.nil_append]
      exact k _ ⟨ms, 0, 0, 7, rfl, by decide⟩
  exact go
end PV
end
section
set_option Elab.async false
set_option linter.all false
set_option maxRecDepth 100000
set_option maxHeartbeats 4000000
/-! mathematics of comparisons: plain Lean -/
namespace PV
open PySem
inductive Op4 where
  | lt | le | eq | ne
  deriving DecidableEq
structure Rule where
  x : Nat
  op : Op4
  y : Nat
  deriving DecidableEq
abbrev Edge := Nat × Nat
/-- as the program lists them -/
def stepsOf : List Rule → List Edge
  | [] => []
  | r :: rs => (if r.op = .ne then [] else [(r.x, r.y)]) ++ ((if r.op = .eq then [(r.y, r.x)] else []) ++ stepsOf rs)
/-- as the law lists them -/
def stepsL (rs : List Rule) : List Edge := (rs.filter fun r => decide (r.op ≠ .ne)).map (fun r => (r.x, r.y)) ++ (rs.filter fun r => decide (r.op = .eq)).map fun r => (r.y, r.x)
theorem mem_stepsOf {e : Edge} : ∀ {rs : List Rule}, e ∈ stepsOf rs ↔ ∃ r ∈ rs, (r.op ≠ .ne ∧ e = (r.x, r.y)) ∨ (r.op = .eq ∧ e = (r.y, r.x))
  | [] => by simp [stepsOf]
  | ⟨x, op, y⟩ :: rs => by
    unfold stepsOf
    rw [List.mem_append, List.mem_append, mem_stepsOf]
    cases op <;> simp [or_assoc]
theorem mem_stepsL {e : Edge} {rs : List Rule} : e ∈ stepsL rs ↔ ∃ r ∈ rs, (r.op ≠ .ne ∧ e = (r.x, r.y)) ∨ (r.op = .eq ∧ e = (r.y, r.x)) := by
  unfold stepsL
  simp only [List.mem_append, List.mem_map, List.mem_filter, decide_eq_true_eq]
  constructor
  · rintro (⟨r, ⟨h1, h2⟩, rfl⟩ | ⟨r, ⟨h1, h2⟩, rfl⟩)
    · exact ⟨r, h1, .inl ⟨h2, rfl⟩⟩
    · exact ⟨r, h1, .inr ⟨h2, rfl⟩⟩
  · rintro ⟨r, h1, ⟨h2, rfl⟩ | ⟨h2, rfl⟩⟩
    · exact .inl ⟨r, ⟨h1, h2⟩, rfl⟩
    · exact .inr ⟨r, ⟨h1, h2⟩, rfl⟩
theorem steps_same {rs : List Rule} {e : Edge} : e ∈ stepsOf rs ↔ e ∈ stepsL rs := mem_stepsOf.trans mem_stepsL.symm
inductive Reach (es : List Edge) : Nat → Nat → Prop where
  | refl (x : Nat) : Reach es x x
  | step {x y z : Nat} : Reach es x y → (y, z) ∈ es → Reach es x z
theorem Reach.trans {es : List Edge} {x y z : Nat} (a : Reach es x y) (b : Reach es y z) : Reach es x z := by
  induction b with
  | refl => exact a
  | step _ h ih => exact .step ih h
theorem Reach.mono {es fs : List Edge} (h : ∀ e ∈ es, e ∈ fs) {x y : Nat} (a : Reach es x y) : Reach fs x y := by
  induction a with
  | refl => exact .refl _
  | step _ q ih => exact .step ih (h _ q)
theorem Reach.lt {es : List Edge} {n : Nat} (h : ∀ e ∈ es, e.1 < n ∧ e.2 < n) {x y : Nat} (a : Reach es x y) (hx : x < n) : y < n := by
  induction a with
  | refl => exact hx
  | step _ q ih => exact (h _ q).2
/-- paths through nodes below n -/
def RB (es : List Edge) : Nat → Nat → Nat → Bool
  | 0, x, y => (x == y) || es.contains (x, y)
  | n + 1, x, y => RB es n x y || (RB es n x n && RB es n n y)
theorem rb_reach (es : List Edge) : ∀ (n : Nat) {x y : Nat}, RB es n x y = true → Reach es x y
  | 0, x, y, h => by
    simp [RB] at h
    rcases h with rfl | h
    · exact .refl _
    · exact .step (.refl _) h
  | n + 1, x, y, h => by
    simp [RB] at h
    rcases h with h | ⟨h1, h2⟩
    · exact rb_reach es n h
    · exact (rb_reach es n h1).trans (rb_reach es n h2)
theorem rb_le {es : List Edge} {x y : Nat} {n : Nat} (h : RB es n x y = true) : ∀ k, RB es (n + k) x y = true
  | 0 => h
  | k + 1 => by show RB es (n + k + 1) x y = true; simp [RB, rb_le h k]
theorem rb_through {es : List Edge} : ∀ {n : Nat} {x z y : Nat}, z < n → RB es n x z = true → RB es n z y = true → RB es n x y = true
  | n + 1, x, z, y, hz, h1, h2 => by
    simp only [RB, Bool.or_eq_true, Bool.and_eq_true] at h1 h2 ⊢
    rcases Nat.lt_succ_iff_lt_or_eq.mp hz with hz | rfl
    · rcases h1 with h1 | ⟨h1, h1'⟩ <;> rcases h2 with h2 | ⟨h2, h2'⟩
      · exact .inl (rb_through hz h1 h2)
      · exact .inr ⟨rb_through hz h1 h2, h2'⟩
      · exact .inr ⟨h1, rb_through hz h1' h2⟩
      · exact .inr ⟨h1, h2'⟩
    · have a : RB es z x z = true := by
        rcases h1 with h1 | h1
        · exact h1
        · exact h1.1
      have b : RB es z z y = true := by
        rcases h2 with h2 | h2
        · exact h2
        · exact h2.2
      exact .inr ⟨a, b⟩
theorem reach_rb {es : List Edge} {n : Nat} (hE : ∀ e ∈ es, e.1 < n ∧ e.2 < n) {x y : Nat} (h : Reach es x y) : RB es n x y = true := by
  induction h with
  | refl => simpa using rb_le (es := es) (n := 0) (x := x) (y := x) (by simp [RB]) n
  | @step y z h q ih =>
    have e : RB es n y z = true := by simpa using rb_le (es := es) (n := 0) (x := y) (y := z) (by simp [RB, q]) n
    exact rb_through (hE _ q).1 ih e
theorem rb_iff {es : List Edge} {n : Nat} (hE : ∀ e ∈ es, e.1 < n ∧ e.2 < n) {x y : Nat} : RB es n x y = true ↔ Reach es x y := ⟨rb_reach es n, reach_rb hE⟩
theorem rb_same {es fs : List Edge} {n : Nat} (hE : ∀ e ∈ es, e.1 < n ∧ e.2 < n) (h : ∀ e, e ∈ es ↔ e ∈ fs) (x y : Nat) : RB es n x y = RB fs n x y := by
  have hF : ∀ e ∈ fs, e.1 < n ∧ e.2 < n := fun e he => hE e ((h e).mpr he)
  have : RB es n x y = true ↔ RB fs n x y = true := (rb_iff hE).trans (Iff.trans ⟨Reach.mono fun e => (h e).mp, Reach.mono fun e => (h e).mpr⟩ (rb_iff hF).symm)
  cases a : RB es n x y <;> cases b : RB fs n x y <;> simp_all
/-! bits -/
/-- the number with the bits of f below n -/
def mk : Nat → (Nat → Bool) → Nat
  | 0, _ => 0
  | n + 1, f => mk n f + (if f n then 2 ^ n else 0)
theorem mk_lt : ∀ (n : Nat) (f : Nat → Bool), mk n f < 2 ^ n
  | 0, _ => by simp [mk]
  | n + 1, f => by
    have := mk_lt n f
    unfold mk
    rw [Nat.pow_succ]
    split <;> omega
theorem mk_bit : ∀ (n : Nat) (f : Nat → Bool) (i : Nat), (mk n f).testBit i = (decide (i < n) && f i)
  | 0, f, i => by simp [mk]
  | n + 1, f, i => by
    unfold mk
    have h := mk_lt n f
    by_cases hf : f n = true
    · rw [if_pos hf, Nat.add_comm]
      by_cases hi : i < n
      · rw [Nat.testBit_two_pow_add_gt hi, mk_bit n f i]
        simp [hi, Nat.lt_succ_of_lt hi]
      · by_cases he : i = n
        · subst he
          rw [Nat.testBit_two_pow_add_eq, Nat.testBit_lt_two_pow h]
          simp [hf]
        · have : 2 ^ n + mk n f < 2 ^ i := by
            have : 2 ^ (n + 1) ≤ 2 ^ i := Nat.pow_le_pow_right (by decide) (by omega)
            rw [Nat.pow_succ] at this
            omega
          rw [Nat.testBit_lt_two_pow this]
          simp; intro; omega
    · rw [if_neg hf, Nat.add_zero, mk_bit n f i]
      by_cases he : i = n
      · subst he; simp [hf]
      · have : decide (i < n) = decide (i < n + 1) := by simp; omega
        rw [this]
theorem mk_eq {n : Nat} {f g : Nat → Bool} (h : ∀ i, i < n → f i = g i) : mk n f = mk n g := by
  apply Nat.eq_of_testBit_eq
  intro i
  rw [mk_bit, mk_bit]
  by_cases hi : i < n
  · simp [hi, h i hi]
  · simp [hi]
theorem mk_or {n : Nat} {f g : Nat → Bool} : mk n f ||| mk n g = mk n fun i => f i || g i := by
  apply Nat.eq_of_testBit_eq
  intro i
  rw [Nat.testBit_or, mk_bit, mk_bit, mk_bit]
  by_cases hi : i < n <;> simp [hi]
theorem mk_one {n y : Nat} (h : y < n) : 2 ^ y = mk n fun i => i == y := by
  apply Nat.eq_of_testBit_eq
  intro i
  rw [mk_bit, Nat.testBit_two_pow]
  by_cases hi : i < n
  · by_cases e : y = i
    · subst e; simp [hi]
    · have e' : ¬ i = y := fun z => e z.symm
      simp [e, e']
  · simp [hi]; omega
theorem mk_get {n : Nat} {f : Nat → Bool} {m : Nat} (h : m < n) : mk n f / 2 ^ m % 2 = if f m then 1 else 0 := by
  have := mk_bit n f m
  rw [Nat.testBit_eq_decide_div_mod_eq] at this
  simp [h] at this
  by_cases hf : f m = true
  · simp [hf] at this ⊢; exact this
  · simp [hf] at this ⊢; omega
theorem mk_add : ∀ {n : Nat} {f g : Nat → Bool}, (∀ i, i < n → f i = true → g i = true → False) → mk n (fun i => f i || g i) = mk n f + mk n g
  | 0, _, _, _ => rfl
  | n + 1, f, g, h => by
    have ih := mk_add (n := n) (f := f) (g := g) fun i hi => h i (Nat.lt_succ_of_lt hi)
    have hn := h n (Nat.lt_succ_self n)
    unfold mk
    rw [ih]
    generalize 2 ^ n = p
    cases a : f n <;> cases b : g n
    · simp [a, b]
    · simp [a, b, Nat.add_assoc]
    · simp [a, b]; omega
    · exact (hn a b).elim
/-- sums of different powers -/
theorem sum_pows : ∀ {l : List Nat} {n : Nat}, l.Nodup → (∀ y ∈ l, y < n) → (l.map fun y => 2 ^ y).sum = mk n fun i => l.contains i
  | [], n, _, _ => by
    apply Nat.eq_of_testBit_eq
    intro i
    rw [mk_bit]; simp
  | y :: l, n, nd, h => by
    obtain ⟨n1, n2⟩ := List.nodup_cons.mp nd
    rw [List.map_cons, List.sum_cons, sum_pows n2 fun z hz => h z (List.mem_cons_of_mem _ hz)]
    have hy := h y List.mem_cons_self
    rw [mk_one hy, ← mk_add]
    · apply mk_eq
      intro i _
      rw [List.contains_cons]
    · intro i _ h1 h2
      have e : i = y := by simpa using h1
      subst e
      exact n1 (by simpa using h2)
end PV
end
section
set_option Elab.async false
set_option linter.all false
set_option maxRecDepth 100000
set_option maxHeartbeats 4000000
/-! a walk in breadth, as the law does it -/
namespace PV
open PySem
def addTo (cur : Nat) (met : List Nat) (e : Edge) : List Nat := if e.1 = cur ∧ e.2 ∉ met then met ++ [e.2] else met
def innerL (cur : Nat) (es : List Edge) (met : List Nat) : List Nat := es.foldl (addTo cur) met
def outerL (es : List Edge) (met : List Nat) (i : Nat) : List Nat := match met[i]? with
  | some c => innerL c es met
  | none => met
structure Walk (es : List Edge) (n start : Nat) (met : List Nat) : Prop where
  nd : met.Nodup
  has : start ∈ met
  ok : ∀ y ∈ met, Reach es start y ∧ y < n
theorem addTo_pre {cur : Nat} {met : List Nat} {e : Edge} : ∃ ext, addTo cur met e = met ++ ext := by
  unfold addTo
  split
  · exact ⟨_, rfl⟩
  · exact ⟨[], by simp⟩
theorem innerL_pre {cur : Nat} : ∀ {es : List Edge} {met : List Nat}, ∃ ext, innerL cur es met = met ++ ext
  | [], met => ⟨[], by simp [innerL]⟩
  | e :: es, met => by
    obtain ⟨a, ha⟩ := addTo_pre (cur := cur) (met := met) (e := e)
    obtain ⟨b, hb⟩ := innerL_pre (cur := cur) (es := es) (met := addTo cur met e)
    refine ⟨a ++ b, ?_⟩
    show innerL cur es (addTo cur met e) = _
    rw [hb, ha, List.append_assoc]
theorem innerL_all {cur : Nat} : ∀ {es : List Edge} {met : List Nat} {y : Nat}, (cur, y) ∈ es → y ∈ innerL cur es met
  | e :: es, met, y, h => by
    show y ∈ innerL cur es (addTo cur met e)
    rcases List.mem_cons.mp h with h | h
    · obtain ⟨b, hb⟩ := innerL_pre (cur := cur) (es := es) (met := addTo cur met e)
      rw [hb]
      refine List.mem_append_left _ ?_
      subst h
      unfold addTo
      by_cases q : y ∈ met
      · rw [if_neg (by simp [q])]; exact q
      · rw [if_pos ⟨rfl, q⟩]; simp
    · exact innerL_all h
theorem innerL_walk {all : List Edge} {n start cur : Nat} (hE : ∀ e ∈ all, e.1 < n ∧ e.2 < n) : ∀ {es : List Edge} {met : List Nat}, (∀ e ∈ es, e ∈ all) → Reach all start cur → Walk all n start met → Walk all n start (innerL cur es met)
  | [], met, _, _, w => w
  | e :: es, met, hs, hc, w => by
    refine innerL_walk (es := es) (met := addTo cur met e) hE (fun f hf => hs f (List.mem_cons_of_mem _ hf)) hc ?_
    unfold addTo
    split
    · rename_i h
      have he := hs e List.mem_cons_self
      refine ⟨?_, List.mem_append_left _ w.has, fun y hy => ?_⟩
      · rw [List.nodup_append]
        refine ⟨w.nd, by simp, fun a ha b hb => ?_⟩
        rw [List.mem_singleton] at hb
        subst hb
        rintro rfl
        exact h.2 ha
      · rcases List.mem_append.mp hy with hy | hy
        · exact w.ok y hy
        · rw [List.mem_singleton] at hy
          subst hy
          refine ⟨hc.step (by rw [← h.1]; exact he), (hE e he).2⟩
    · exact w
theorem outerL_walk {es : List Edge} {n start : Nat} (hE : ∀ e ∈ es, e.1 < n ∧ e.2 < n) {met : List Nat} {i : Nat} (w : Walk es n start met) : Walk es n start (outerL es met i) := by
  unfold outerL
  split
  · rename_i c e
    exact innerL_walk hE (fun _ h => h) (w.ok c (List.mem_of_getElem? e)).1 w
  · exact w
/-- closed so far -/
def Clo (es : List Edge) (k : Nat) (met : List Nat) : Prop := ∀ j c y, j < k → met[j]? = some c → (c, y) ∈ es → y ∈ met
theorem outerL_clo {es : List Edge} {met : List Nat} {k : Nat} (h : Clo es k met) : Clo es (k + 1) (outerL es met k) := by
  unfold outerL
  split
  · rename_i c0 e0
    obtain ⟨ext, hx⟩ := innerL_pre (cur := c0) (es := es) (met := met)
    have hk : k < met.length := (List.getElem?_eq_some_iff.mp e0).1
    intro j c y hj hc hy
    have old : met[j]? = some c := by
      rw [hx, List.getElem?_append_left (by omega)] at hc
      exact hc
    by_cases e : j = k
    · subst e
      rw [e0] at old; cases old
      exact innerL_all hy
    · rw [hx]
      exact List.mem_append_left _ (h j c y (by omega) old hy)
  · rename_i e0
    intro j c y hj hc hy
    have hk : met.length ≤ k := List.getElem?_eq_none_iff.mp e0
    have hj2 : j < met.length := (List.getElem?_eq_some_iff.mp hc).1
    exact h j c y (by omega) hc hy
theorem nodup_len : ∀ {n : Nat} {l : List Nat}, l.Nodup → (∀ y ∈ l, y < n) → l.length ≤ n
  | 0, l, _, h => by
    cases l with
    | nil => exact Nat.le_refl _
    | cons a l => exact absurd (h a List.mem_cons_self) (Nat.not_lt_zero _)
  | n + 1, l, nd, h => by
    have ih := nodup_len (n := n) (l := l.erase n) (nd.erase n) fun y hy => by
      have q := (nd.mem_erase_iff).mp hy
      have := h y q.2
      omega
    by_cases hn : n ∈ l
    · rw [List.length_erase_of_mem hn] at ih
      omega
    · rw [List.erase_of_not_mem hn] at ih
      omega
/-- the walk has met just what can be reached -/
theorem walk_full {es : List Edge} {n start : Nat} {met : List Nat} (w : Walk es n start met) (c : Clo es n met) (y : Nat) : y ∈ met ↔ Reach es start y := by
  refine ⟨fun h => (w.ok y h).1, fun h => ?_⟩
  have hl := nodup_len w.nd fun y hy => (w.ok y hy).2
  induction h with
  | refl => exact w.has
  | step _ q ih =>
    obtain ⟨j, hj, e⟩ := List.mem_iff_getElem.mp ih
    exact c j _ _ (by omega) (by rw [List.getElem?_eq_getElem hj, e]) q
end PV
end
section
set_option Elab.async false
set_option linter.all false
set_option maxRecDepth 100000
set_option maxHeartbeats 4000000
namespace PV
open PySem L2
def b_steps_of : DSt :=
  (sSeq (sSet 1 (eLst aNil))
    (sSeq (sFor (iSlot 0) (gT 3 (gCs (gN 2) (gCs (gN 3) (gCs (gN 4) gNl)))) (sSeq (sIf (tB (eOp oNe (eVar 3) (eC (.str "ne")))) (sEx (eMut 1 mApp (aCons (eTup (aCons (eVar 2) (aCons (eVar 4) aNil))) aNil))) sNil)
    (sIf (tB (eOp oEq (eVar 3) (eC (.str "eq")))) (sEx (eMut 1 mApp (aCons (eTup (aCons (eVar 4) (aCons (eVar 2) aNil))) aNil))) sNil)))
    (sRet [0] (eVar 1))))
@[irreducible] def m_steps_of : DSp := runF [true] 4 b_steps_of
def b_reach : DSt :=
  (sSeq (sSet 2 (eLc (iRange1 (aCons (eVar 0) aNil)) [3] (gN 3) tTrue (eFz (eOp oShl (eC (.int 1)) (eVar 3)))))
    (sSeq (sFor (iFz (eCall m_steps_of 1 [true] (aCons (eVar 1) aNil))) (gT 2 (gCs (gN 4) (gCs (gN 5) gNl))) (sSetIx 2 (eOp oOr (eIx (eVar 2) (eVar 4)) (eOp oShl (eC (.int 1)) (eVar 5))) (eVar 4)))
    (sSeq (sFor (iRange1 (aCons (eVar 0) aNil)) (gN 6) (sFor (iRange1 (aCons (eVar 0) aNil)) (gN 4) (sIf (tTr (eOp oAnd (eOp oShr (eIx (eVar 2) (eVar 4)) (eVar 6)) (eC (.int 1)))) (sSetIx 2 (eOp oOr (eIx (eVar 2) (eVar 4)) (eIx (eVar 2) (eVar 6))) (eVar 4)) sNil)))
    (sRet [0, 1] (eBi cTuple (aCons (eVar 2) aNil))))))
@[irreducible] def m_reach : DSp := runF [true, true] 5 b_reach
def b_is_tied : DSt :=
  (sRet [0, 1, 2] (eAnd (eOp oEq (eOp oAnd (eOp oShr (eIx (eVar 0) (eVar 1)) (eVar 2)) (eC (.int 1))) (eC (.int 1))) (eOp oEq (eOp oAnd (eOp oShr (eIx (eVar 0) (eVar 2)) (eVar 1)) (eC (.int 1))) (eC (.int 1)))))
@[irreducible] def m_is_tied : DSp := runF [true, true, true] 0 b_is_tied
def b_stands : DSt :=
  (sSeq (sSet 2 (eCall m_reach 2 [true, true] (aCons (eVar 0) (aCons (eVar 1) aNil))))
    (sRet [0, 1] (eBi cTuple (aCons (eLc (iRange1 (aCons (eVar 0) aNil)) [4] (gN 4) tTrue (eFz (eBi cMin (aCons (eLc (iRange1 (aCons (eVar 0) aNil)) [3] (gN 3) (tTr (eCall m_is_tied 3 [true, true, true] (aCons (eVar 2) (aCons (eVar 3) (aCons (eVar 4) aNil))))) (eFz (eVar 3))) aNil)))) aNil))))
@[irreducible] def m_stands : DSp := runF [true, true] 3 b_stands
def b_L_steps : DSt :=
  (sRet [0] (eOp oAdd (eLc (iSlot 0) [1, 2, 3] (gT 3 (gCs (gN 1) (gCs (gN 2) (gCs (gN 3) gNl)))) (tB (eOp oNe (eVar 2) (eC (.str "ne")))) (eFz (eTup (aCons (eVar 1) (aCons (eVar 3) aNil))))) (eLc (iSlot 0) [1, 2, 3] (gT 3 (gCs (gN 1) (gCs (gN 2) (gCs (gN 3) gNl)))) (tB (eOp oEq (eVar 2) (eC (.str "eq")))) (eFz (eTup (aCons (eVar 3) (aCons (eVar 1) aNil)))))))
@[irreducible] def m_L_steps : DSp := runF [true] 3 b_L_steps
end PV
end
section
set_option Elab.async false
set_option linter.all false
set_option maxRecDepth 100000
set_option maxHeartbeats 4000000
namespace PV
open PySem L2
local macro_rules | `(tactic| walk_at "w") => `(tactic| (conv => whnf))
def opS : Op4 → Str
  | .lt => "lt"
  | .le => "le"
  | .eq => "eq"
  | .ne => "ne"
theorem opS_inj {a b : Op4} : opS a = opS b ↔ a = b := by
  constructor
  · intro h
    have : decide (opS a = opS b) = true := decide_eq_true h
    revert this
    cases a <;> cases b <;> decide
  · rintro rfl; rfl
theorem eqv_op (a b : Op4) : PyData.eqv (.str (opS a)) (.str (opS b)) = decide (a = b) := by
  rw [eqv_str]
  exact decide_eq_decide.mpr opS_inj
abbrev ruleD (r : Rule) : D := .tuple [.int r.x, .str (opS r.op), .int r.y]
abbrev pairD (e : Edge) : D := .tuple [.int e.1, .int e.2]
theorem stepsOf_snoc (rs : List Rule) (r : Rule) : stepsOf (rs ++ [r]) = stepsOf rs ++ ((if r.op = .ne then [] else [(r.x, r.y)]) ++ (if r.op = .eq then [(r.y, r.x)] else [])) := by
  induction rs with
  | nil => simp [stepsOf]
  | cons a rs ih => simp only [List.cons_append, stepsOf, ih, List.append_assoc]
theorem stepsOf_len (rs : List Rule) : (stepsOf rs).length ≤ 2 * rs.length := by
  induction rs with
  | nil => simp [stepsOf]
  | cons r rs ih =>
    unfold stepsOf
    rw [List.length_append, List.length_append, List.length_cons]
    split <;> split <;> simp <;> omega
theorem steps_of_ok {rs : List Rule} (h : rs.length ≤ 1000000) {Q : Ev → List Sl → Prop} (k : Q (.fresh (.list ((stepsOf rs).map pairD))) [.fz (.tuple (rs.map ruleD))]) : m_steps_of [.fz (.tuple (rs.map ruleD))] Q := by
  unfold m_steps_of b_steps_of
  walk_at "w"
  refine forGo_inv (fun pre post ds => ∃ done rest : List Rule, post = rest.map ruleD ∧ rs = done ++ rest ∧ ∃ s2 s3 s4, ds = [.fz (.tuple (rs.map ruleD)), .ow (.list ((stepsOf done).map pairD)), s2, s3, s4]) (fun {pre post ds P} _ p => p) ?_ ?_ (pre := []) ⟨[], rs, rfl, rfl, _, _, _, rfl⟩
  · rintro pre x post ds N ⟨done, rest, hp, hd, s2, s3, s4, rfl⟩ hN
    cases rest with
    | nil => simp at hp
    | cons r rest =>
      rw [List.map_cons] at hp
      injection hp with hp1 hp2
      subst hp1
      have hl : (stepsOf done).length ≤ 2000000 := by
        have := stepsOf_len done
        have := congrArg List.length hd
        rw [List.length_append] at this
        omega
      have hN' : ∀ {l : List D} {s2 s3 s4 : Sl}, l = (stepsOf (done ++ [r])).map pairD → N [.fz (.tuple (rs.map ruleD)), .ow (.list l), s2, s3, s4] := fun {l s2 s3 s4} e => hN _ ⟨done ++ [r], rest, hp2, by rw [hd]; simp, s2, s3, s4, by rw [e]⟩
      rw [stepsOf_snoc] at hN'
      obtain ⟨x, op, y⟩ := r
      walk_at "w"
      refine oNe_i (!decide (op = .ne)) ?_ ?_ ?_
      · exact congrArg (fun b => !b) (eqv_op op .ne)
      · simp [depth_str]
      cases op
      · walk_at "w"
        refine ⟨by rw [List.length_map]; omega, ?_⟩
        walk_at "w"
        refine oEq_i false ?_ ?_ ?_
        · exact eqv_op _ .eq
        · simp [depth_str]
        walk_at "w"
        exact hN' (by simp)
      · walk_at "w"
        refine ⟨by rw [List.length_map]; omega, ?_⟩
        walk_at "w"
        refine oEq_i false ?_ ?_ ?_
        · exact eqv_op _ .eq
        · simp [depth_str]
        walk_at "w"
        exact hN' (by simp)
      · walk_at "w"
        refine ⟨by rw [List.length_map]; omega, ?_⟩
        walk_at "w"
        refine oEq_i true ?_ ?_ ?_
        · exact eqv_op _ .eq
        · simp [depth_str]
        walk_at "w"
        refine ⟨by rw [List.length_append, List.length_map]; simp; omega, ?_⟩
        exact hN' (by simp)
      · walk_at "w"
        refine oEq_i false ?_ ?_ ?_
        · exact eqv_op _ .eq
        · simp [depth_str]
        walk_at "w"
        exact hN' (by simp)
  · rintro pre ds ⟨done, rest, hp, hd, s2, s3, s4, rfl⟩
    have : rest = [] := by cases rest with | nil => rfl | cons r rest => simp at hp
    subst this
    rw [List.append_nil] at hd
    subst hd
    exact k
end PV
end
section
set_option Elab.async false
set_option linter.all false
set_option maxRecDepth 100000
set_option maxHeartbeats 4000000
namespace PV
open PySem L2
local macro_rules | `(tactic| walk_at "w") => `(tactic| (conv => whnf))
/-- the masks of a relation -/
def mlist (n : Nat) (f : Nat → Nat → Bool) : List D := (List.range n).map fun x => .int ((mk n (f x) : Nat) : Int)
theorem mlist_len {n : Nat} {f : Nat → Nat → Bool} : (mlist n f).length = n := by simp [mlist]
theorem mlist_get {n : Nat} {f : Nat → Nat → Bool} {x : Nat} (h : x < n) : (mlist n f)[x]? = some (.int ((mk n (f x) : Nat) : Int)) := by
  simp [mlist, h]
theorem mlist_eq {n : Nat} {f g : Nat → Nat → Bool} (h : ∀ x y, x < n → y < n → f x y = g x y) : mlist n f = mlist n g := by
  unfold mlist
  apply List.map_congr_left
  intro x hx
  rw [mk_eq fun i hi => h x i (List.mem_range.mp hx) hi]
theorem mlist_set {n : Nat} {f : Nat → Nat → Bool} {x : Nat} {g : Nat → Bool} : (mlist n f).set x (.int ((mk n g : Nat) : Int)) = mlist n fun i => if i = x then g else f i := by
  unfold mlist
  apply List.ext_getElem?
  intro i
  by_cases hi : x = i
  · subst hi
    by_cases hx : x < n
    · rw [List.getElem?_set_self (by simpa using hx)]
      simp [hx]
    · rw [List.getElem?_eq_none (by simp; omega), List.getElem?_eq_none (by simp; omega)]
  · rw [List.getElem?_set_ne hi]
    by_cases hx : i < n
    · have : ¬ i = x := fun z => hi z.symm
      simp [hx, this]
    · rw [List.getElem?_eq_none (by simp; omega), List.getElem?_eq_none (by simp; omega)]
theorem shl_nat (y : Nat) : (1 : Int) * 2 ^ (Int.toNat (y : Int)) = ((2 ^ y : Nat) : Int) := by
  rw [Int.one_mul, Int.toNat_natCast, Int.natCast_pow]; rfl
theorem or_nat (a b : Nat) : Builtin.bitOr (a : Int) (b : Int) = ((a ||| b : Nat) : Int) := by
  rw [Bits.bitOr_pp (Int.natCast_nonneg a) (Int.natCast_nonneg b), Int.toNat_natCast, Int.toNat_natCast]
theorem bit_nat {n : Nat} {f : Nat → Bool} {m : Nat} (h : m < n) : Builtin.bitAnd (((mk n f : Nat) : Int) / 2 ^ (Int.toNat (m : Int))) 1 = if f m then 1 else 0 := by
  rw [PyProof.Rows.bitAnd_m1, Int.toNat_natCast]
  have : ((mk n f : Nat) : Int) / 2 ^ m % 2 = ((mk n f / 2 ^ m % 2 : Nat) : Int) := by
    rw [Int.natCast_emod, Int.natCast_ediv, Int.natCast_pow]; rfl
  rw [this, mk_get h]
  split <;> rfl
theorem atD_nat {α : Type} {xs : List α} {j : Nat} {Q : α → Prop} {x : α} (h : xs[j]? = some x) (q : Q x) : atD xs (j : Int) Q := atD_i (Int.natCast_nonneg j) (by rw [Int.toNat_natCast]; exact h) q
def edgesLt (n : Nat) (es : List Edge) : Prop := ∀ e ∈ es, e.1 < n ∧ e.2 < n
/-- the relation after some edges -/
def RE (es : List Edge) (x y : Nat) : Bool := (x == y) || es.contains (x, y)
theorem RE_snoc (es : List Edge) (a b x : Nat) : RE (es ++ [(a, b)]) x = if x = a then fun i => RE es x i || (i == b) else RE es x := by
  funext y
  unfold RE
  by_cases h : x = a
  · subst h
    simp only [if_true, List.contains_append, List.contains_cons, List.contains_nil, Bool.or_false, Bool.or_assoc]
    rw [show ((x, y) == (x, b)) = (x == x && y == b) from rfl, beq_self_eq_true, Bool.true_and]
  · simp [h]
/-- within a stage -/
def RS (es : List Edge) (k j x y : Nat) : Bool := if x < j then RB es (k + 1) x y else RB es k x y
theorem reach_ok {n : Nat} {rs : List Rule} (hn : n ≤ 1000) (h : rs.length ≤ 1000000) (hE : edgesLt n (stepsOf rs)) {Q : Ev → List Sl → Prop} (k : Q (.val (.tuple (mlist n (RB (stepsOf rs) n)))) [.fz (.int (n : Int)), .fz (.tuple (rs.map ruleD))]) :
    m_reach [.fz (.int (n : Int)), .fz (.tuple (rs.map ruleD))] Q := by
  unfold m_reach b_reach
  walk_at "w"
  refine ⟨⟨by omega, by omega⟩, ?_⟩
  walk_at "w"
  have hbnd : bnd62 (n : Int) := ⟨by omega, by omega⟩
  refine lcGo_map (all := rngD 0 (n : Int).toNat) (fun d => match d with | .int i => .int (1 * 2 ^ i.toNat) | d => d) (fun x hx N hN => ?_) (fun _ h => h) (by simp [rngD]; omega) ?_
  · obtain ⟨j, hj, rfl⟩ := List.mem_map.mp hx
    have hj : j < n := by simpa using hj
    walk_at "w"
    exact ⟨⟨by omega, by omega, by decide⟩, hN _ rfl⟩
  have e0 : ((rngD 0 (n : Int).toNat).map fun d => match d with | .int i => PyData.int (1 * 2 ^ i.toNat) | d => d) = mlist n (RE []) := by
    unfold rngD mlist
    rw [List.map_map, Int.toNat_natCast]
    apply List.map_congr_left
    intro x hx
    show PyData.int (1 * 2 ^ (0 + (x : Int)).toNat) = _
    rw [Int.zero_add, shl_nat, mk_one (List.mem_range.mp hx)]
    congr 2
    apply mk_eq
    intro i _
    by_cases q : i = x
    · subst q; simp [RE]
    · simp only [RE, List.contains_nil, Bool.or_false]
      exact BEq.comm
  rw [e0]
  walk_at "w"
  -- the edges
  refine steps_of_ok h ?_
  walk_at "w"
  have hes : (stepsOf rs).length ≤ 2 * rs.length := stepsOf_len rs
  generalize hes' : stepsOf rs = es at *
  refine forGo_inv (fun pre post ds => ∃ done rest : List Edge, post = rest.map pairD ∧ es = done ++ rest ∧ ∃ s3 s4 s5 s6, ds = [.fz (.int (n : Int)), .fz (.tuple (rs.map ruleD)), .ow (.list (mlist n (RE done))), s3, s4, s5, s6]) (fun {pre post ds P} _ p => p) ?_ ?_ (pre := []) ⟨[], es, rfl, rfl, .no, .no, .no, .no, rfl⟩
  · rintro pre x post ds N ⟨done, rest, hp, hd, s3, s4, s5, s6, rfl⟩ hN
    cases rest with
    | nil => simp at hp
    | cons e rest =>
      rw [List.map_cons] at hp
      injection hp with hp1 hp2
      subst hp1
      obtain ⟨a, b⟩ := e
      obtain ⟨ha, hb⟩ : a < n ∧ b < n := hE (a, b) (by rw [hd]; simp)
      walk_at "w"
      refine atD_nat (mlist_get (f := RE done) ha) ?_
      walk_at "w"
      refine ⟨⟨Int.natCast_nonneg _, by omega, by decide⟩, ?_⟩
      walk_at "w"
      refine ixD_nat (by rw [mlist_len]; exact ha) ?_
      have hN' : ∀ {l : List D} {s3 s4 s5 s6 : Sl}, l = mlist n (RE (done ++ [(a, b)])) → N [.fz (.int (n : Int)), .fz (.tuple (rs.map ruleD)), .ow (.list l), s3, s4, s5, s6] := fun {l s3 s4 s5 s6} e => hN _ ⟨done ++ [(a, b)], rest, hp2, by rw [hd]; simp, s3, s4, s5, s6, by rw [e]⟩
      have e1 : (mlist n (RE done)).set a (.int (Builtin.bitOr ((mk n (RE done a) : Nat) : Int) (1 * 2 ^ (Int.toNat (b : Int))))) = mlist n (RE (done ++ [(a, b)])) := by
        rw [shl_nat, or_nat, mk_one hb, mk_or, mlist_set]
        apply mlist_eq
        intro i j _ _
        rw [RE_snoc]
        by_cases q : i = a
        · subst q; rfl
        · rw [if_neg q, if_neg q]
      exact hN' e1
  · rintro pre ds ⟨done, rest, hp, hd, s3, s4, s5, s6, rfl⟩
    have : rest = [] := by cases rest with | nil => rfl | cons r rest => simp at hp
    subst this
    rw [List.append_nil] at hd
    subst hd
    walk_at "w"
    refine ⟨hbnd, ?_⟩
    -- the stages
    refine forGo_rng (fun k ds => ∃ s3 s4 s5 s6, ds = [.fz (.int (n : Int)), .fz (.tuple (rs.map ruleD)), .ow (.list (mlist n (RB es k))), s3, s4, s5, s6]) ⟨s3, s4, s5, s6, rfl⟩ ?_ ?_
    · rintro m ds N hm ⟨s3, s4, s5, s6, rfl⟩ hN
      have hm : m < n := by simpa using hm
      walk_at "w"
      refine ⟨hbnd, ?_⟩
      refine forGo_rng (fun j ds => ∃ s3 s4 s5, ds = [.fz (.int (n : Int)), .fz (.tuple (rs.map ruleD)), .ow (.list (mlist n (RS es m j))), s3, s4, s5, .fz (.int (0 + (m : Int)))]) ⟨s3, s4, s5, ?_⟩ ?_ ?_
      · have : mlist n (RS es m 0) = mlist n (RB es m) := mlist_eq fun x y _ _ => by simp [RS]
        rw [this]
        rfl
      · rintro j ds N2 hj ⟨s3, s4, s5, rfl⟩ hN2
        have hj : j < n := by simpa using hj
        have ej : (0 : Int) + (j : Int) = (j : Int) := Int.zero_add _
        have em : (0 : Int) + (m : Int) = (m : Int) := Int.zero_add _
        rw [ej, em]
        walk_at "w"
        refine atD_nat (mlist_get (f := RS es m j) hj) ?_
        walk_at "w"
        refine ⟨Int.natCast_nonneg _, ?_⟩
        have hf : RS es m j j = RB es m j := by funext y; simp [RS]
        refine br_i (fun hb => ?_) (fun hb => ?_)
        · have hb : (Builtin.bitAnd (((mk n (RS es m j j) : Nat) : Int) / 2 ^ (Int.toNat (m : Int))) 1 != 0) = true := hb
          rw [bit_nat hm, hf] at hb
          have hb : RB es m j m = true := by
            by_cases q : RB es m j m = true
            · exact q
            · rw [if_neg q] at hb; exact absurd hb (by decide)
          walk_at "w"
          refine atD_nat (mlist_get (f := RS es m j) hj) ?_
          walk_at "w"
          refine atD_nat (mlist_get (f := RS es m j) hm) ?_
          walk_at "w"
          refine ixD_nat (by rw [mlist_len]; exact hj) ?_
          have hN' : ∀ {l : List D} {s3 s4 s5 : Sl}, l = mlist n (RS es m (j + 1)) → N2 [.fz (.int (n : Int)), .fz (.tuple (rs.map ruleD)), .ow (.list l), s3, s4, s5, .fz (.int (m : Int))] := fun {l s3 s4 s5} e => hN2 _ ⟨s3, s4, s5, by rw [e, em]⟩
          have e1 : (mlist n (RS es m j)).set j (.int (Builtin.bitOr ((mk n (RS es m j j) : Nat) : Int) ((mk n (RS es m j m) : Nat) : Int))) = mlist n (RS es m (j + 1)) := by
            rw [or_nat, mk_or, mlist_set]
            apply mlist_eq
            intro x y _ _
            have hrow : RS es m j m y = RB es m m y := by
              unfold RS
              split
              · simp [RB]
              · rfl
            by_cases hx : x = j
            · subst hx
              rw [if_pos rfl, hf, hrow]
              simp [RS, RB, hb]
            · rw [if_neg hx]
              unfold RS
              by_cases q : x < j
              · rw [if_pos q, if_pos (by omega)]
              · rw [if_neg q, if_neg (by omega)]
          exact hN' e1
        · have hb : (Builtin.bitAnd (((mk n (RS es m j j) : Nat) : Int) / 2 ^ (Int.toNat (m : Int))) 1 != 0) = false := hb
          rw [bit_nat hm, hf] at hb
          have hb : RB es m j m = false := by
            by_cases q : RB es m j m = true
            · rw [if_pos q] at hb; exact absurd hb (by decide)
            · simpa using q
          have hN' : ∀ {l : List D} {s3 s4 s5 : Sl}, l = mlist n (RS es m (j + 1)) → N2 [.fz (.int (n : Int)), .fz (.tuple (rs.map ruleD)), .ow (.list l), s3, s4, s5, .fz (.int (m : Int))] := fun {l s3 s4 s5} e => hN2 _ ⟨s3, s4, s5, by rw [e, em]⟩
          have e1 : mlist n (RS es m j) = mlist n (RS es m (j + 1)) := by
            apply mlist_eq
            intro x y _ _
            unfold RS
            by_cases hx : x = j
            · subst hx
              rw [if_neg (by omega), if_pos (by omega)]
              simp [RB, hb]
            · by_cases q : x < j
              · rw [if_pos q, if_pos (by omega)]
              · rw [if_neg q, if_neg (by omega)]
          exact hN' e1
      · rintro ds ⟨s3, s4, s5, rfl⟩
        have : mlist n (RS es m (n : Int).toNat) = mlist n (RB es (m + 1)) := mlist_eq fun x y hx _ => by simp [RS, hx]
        exact hN _ ⟨s3, s4, s5, .fz (.int (0 + (m : Int))), by rw [this]⟩
    · rintro ds ⟨s3, s4, s5, s6, rfl⟩
      rw [Int.toNat_natCast]
      exact k
end PV
end
section
set_option Elab.async false
set_option linter.all false
set_option maxRecDepth 100000
set_option maxHeartbeats 4000000
namespace PV
open PySem L2
local macro_rules | `(tactic| walk_at "w") => `(tactic| (conv => whnf))
/-- a comprehension with a test: filter, then map; the slots are left -/
theorem lcGo_fm {ok : DS → Prop → Prop} {vs : List Nat} {g : DG} {tt : DT} {te : DF} {all : List D} {Q : List D → DS → Prop} {ds : DS} (p : D → Bool) (f : D → D) (hok : ∀ P, P → ok ds P)
    (h : ∀ x ∈ all, ∀ (A : D → DS → Prop) (B : DS → Prop), (p x = true → ∀ ds', rstD ds vs ds' = ds → A (f x) ds') → (p x = false → ∀ ds', rstD ds vs ds' = ds → B ds') → g x (wipD ds vs) fun ds1 => tt ds1 fun b ds2 => br b (te ds2 A) (B ds2)) :
    ∀ {xs acc : List D}, (∀ x ∈ xs, x ∈ all) → acc.length + xs.length ≤ 16777216 → Q (acc ++ (xs.filter p).map f) ds → lcGo ok vs g tt te xs acc ds Q
  | [], acc, _, _, q => by
    refine hok _ ?_
    rw [List.filter_nil, List.map_nil, List.append_nil] at q; exact q
  | x :: xs, acc, hm, hz, q => by
    rw [List.length_cons] at hz
    refine hok _ (h x (hm x List.mem_cons_self) _ _ (fun hp ds' e => ?_) (fun hp ds' e => ?_))
    · refine ⟨by omega, ?_⟩
      rw [e]
      exact lcGo_fm p f hok h (fun y hy => hm y (List.mem_cons_of_mem _ hy)) (by rw [List.length_append, List.length_singleton]; omega) (by rw [List.filter_cons_of_pos hp, List.map_cons] at q; rw [List.append_assoc]; exact q)
    · rw [e]
      exact lcGo_fm p f hok h (fun y hy => hm y (List.mem_cons_of_mem _ hy)) (by omega) (by rw [List.filter_cons_of_neg (by rw [hp]; exact Bool.false_ne_true)] at q; exact q)
theorem bitI {n : Nat} {f : Nat → Bool} {m : Nat} (h : m < n) : PyData.eqv (.int (Builtin.bitAnd (((mk n f : Nat) : Int) / 2 ^ (Int.toNat (m : Int))) 1)) (.int 1) = f m := by
  rw [bit_nat h, eqv_int]
  cases f m <;> decide
theorem is_tied_ok {n : Nat} {f : Nat → Nat → Bool} {x y : Nat} (hx : x < n) (hy : y < n) {Q : Ev → List Sl → Prop} (k : Q (.val (.bool (f x y && f y x))) [.fz (.tuple (mlist n f)), .fz (.int (x : Int)), .fz (.int (y : Int))]) :
    m_is_tied [.fz (.tuple (mlist n f)), .fz (.int (x : Int)), .fz (.int (y : Int))] Q := by
  unfold m_is_tied b_is_tied
  walk_at "w"
  refine atD_nat (mlist_get (f := f) hx) ?_
  walk_at "w"
  refine ⟨Int.natCast_nonneg _, ?_⟩
  walk_at "w"
  refine oEq_i (f x y) ?_ ?_ ?_
  · exact bitI hy
  · simp [depth_int]
  refine br_i (fun hb => ?_) (fun hb => ?_)
  · rw [hb, Bool.true_and] at k
    walk_at "w"
    refine atD_nat (mlist_get (f := f) hy) ?_
    walk_at "w"
    refine ⟨Int.natCast_nonneg _, ?_⟩
    walk_at "w"
    refine oEq_i (f y x) ?_ ?_ ?_
    · exact bitI hx
    · simp [depth_int]
    exact k
  · rw [hb, Bool.false_and] at k
    exact k
def natD (l : List Nat) : List D := l.map fun x : Nat => PyData.int (x : Int)
theorem rngD_nat (n : Nat) : rngD 0 n = natD (List.range n) := by
  unfold rngD natD
  apply List.map_congr_left
  intro x _
  show PyData.int (0 + (x : Int)) = _
  rw [Int.zero_add]
theorem natD_ints (l : List Nat) : natD l = (l.map fun x : Nat => (x : Int)).map PyData.int := by unfold natD; rw [List.map_map]; rfl
theorem mem_natD {l : List Nat} {d : D} (h : d ∈ natD l) : ∃ x ∈ l, d = .int (x : Int) := by
  obtain ⟨x, h1, h2⟩ := List.mem_map.mp h
  exact ⟨x, h1, h2.symm⟩
/-- the least of some nodes -/
def leastN (l : List Nat) : Int := leastI (l.map fun x : Nat => (x : Int))
theorem leastN_same {l m : List Nat} (h : ∀ x, x ∈ l ↔ x ∈ m) (h0 : l ≠ []) : leastN l = leastN m := by
  unfold leastN
  have h1 : l.map (fun x : Nat => (x : Int)) ≠ [] := by simpa using h0
  apply least_uniq
  · have := least_mem h1
    obtain ⟨x, hx, e⟩ := List.mem_map.mp this
    exact List.mem_map.mpr ⟨x, (h x).mp hx, e⟩
  · intro y hy
    obtain ⟨x, hx, rfl⟩ := List.mem_map.mp hy
    exact least_le (List.mem_map.mpr ⟨x, (h x).mpr hx, rfl⟩)
def tiedTo (n : Nat) (f : Nat → Nat → Bool) (y : Nat) : List Nat := (List.range n).filter fun x => f x y && f y x
def firstsD (n : Nat) (f : Nat → Nat → Bool) : List D := (List.range n).map fun y => .int (leastN (tiedTo n f y))
theorem filter_natD (p : Nat → Bool) (q : D → Bool) (l : List Nat) (h : ∀ x ∈ l, q (.int (x : Int)) = p x) : (natD l).filter q = natD (l.filter p) := by
  unfold natD
  rw [List.filter_map]
  congr 1
  apply List.filter_congr
  intro x hx
  exact h x hx
def nOf (d : D) : Nat := match d with
  | .int i => i.toNat
  | _ => 0
theorem stands_ok {n : Nat} {rs : List Rule} (hn : n ≤ 1000) (h : rs.length ≤ 1000000) (hE : edgesLt n (stepsOf rs)) {Q : Ev → List Sl → Prop} (k : Q (.val (.tuple (firstsD n (RB (stepsOf rs) n)))) [.fz (.int (n : Int)), .fz (.tuple (rs.map ruleD))]) :
    m_stands [.fz (.int (n : Int)), .fz (.tuple (rs.map ruleD))] Q := by
  unfold m_stands b_stands
  refine reach_ok hn h hE ?_
  generalize hF : RB (stepsOf rs) n = F at *
  have hrefl : ∀ y, y < n → F y y = true := fun y hy => by rw [← hF]; exact reach_rb hE (.refl _)
  have hbnd : bnd62 (n : Int) := ⟨by omega, by omega⟩
  walk_at "w"
  refine ⟨hbnd, ?_⟩
  rw [show (n : Int).toNat = n from Int.toNat_natCast n, rngD_nat]
  refine lcGo_fm (ds := [.fz (.int (n : Int)), .fz (.tuple (rs.map ruleD)), .fz (.tuple (mlist n F)), .no, .no]) (all := natD (List.range n)) (fun _ => true) (fun d => .int (leastN (tiedTo n F (nOf d)))) (fun P p => p) (fun d hd A B hA hB => ?_) (fun _ h => h) (by simp [natD]; omega) ?_
  · obtain ⟨y, hy, rfl⟩ := mem_natD hd
    have hy : y < n := by simpa using hy
    walk_at "w"
    refine ⟨hbnd, ?_⟩
    walk_at "w"
    refine lcGo_fm (ds := [.fz (.int (n : Int)), .fz (.tuple (rs.map ruleD)), .fz (.tuple (mlist n F)), .no, .fz (.int (y : Int))]) (all := rngD 0 (n : Int).toNat) (fun d => F (nOf d) y && F y (nOf d)) (fun d => d) (fun P p => p) (fun d hd A B hA hB => ?_) (fun _ h => h) (by simp [rngD]; omega) ?_
    · rw [show (n : Int).toNat = n from Int.toNat_natCast n, rngD_nat] at hd
      obtain ⟨x, hx, rfl⟩ := mem_natD hd
      have hx : x < n := by simpa using hx
      refine is_tied_ok hx hy ?_
      have e : (F (nOf (.int (x : Int))) y && F y (nOf (.int (x : Int)))) = (F x y && F y x) := by simp [nOf]
      rw [e] at hA hB
      refine br_i (fun hb => ?_) (fun hb => ?_)
      · exact hA hb _ rfl
      · exact hB hb _ rfl
    · rw [show (n : Int).toNat = n from Int.toNat_natCast n, rngD_nat, List.nil_append, List.map_id']
      rw [filter_natD (fun x => F x y && F y x) _ _ (fun x _ => by simp [nOf]), natD_ints]
      walk_at "w"
      refine intsOf_map.mpr ⟨?_, ?_⟩
      · have : y ∈ tiedTo n F y := by
          unfold tiedTo
          rw [List.mem_filter]
          exact ⟨List.mem_range.mpr hy, by simp [hrefl y hy]⟩
        intro e
        have e' : (tiedTo n F y).map (fun x : Nat => (x : Int)) = [] := e
        rw [List.map_eq_nil_iff] at e'
        rw [e'] at this
        cases this
      · have := hA rfl
        simp only [nOf, Int.toNat_natCast] at this
        exact this _ rfl
  · have e : (List.map (fun d => PyData.int (leastN (tiedTo n F (nOf d)))) (List.filter (fun _ => true) (natD (List.range n)))) = firstsD n F := by
      rw [List.filter_eq_self.mpr (fun _ _ => rfl)]
      unfold natD firstsD
      rw [List.map_map]
      apply List.map_congr_left
      intro y _
      simp [nOf]
    rw [e]
    exact k
theorem L_steps_ok {rs : List Rule} (h : rs.length ≤ 1000000) {Q : Ev → List Sl → Prop} (k : Q (.fresh (.list ((stepsL rs).map pairD))) [.fz (.tuple (rs.map ruleD))]) : m_L_steps [.fz (.tuple (rs.map ruleD))] Q := by
  unfold m_L_steps b_L_steps
  have isne : ∀ r : Rule, (!PyData.eqv (.str (opS r.op)) (.str (opS .ne))) = decide (r.op ≠ .ne) := fun r => by rw [eqv_op]; simp
  have iseq : ∀ r : Rule, PyData.eqv (.str (opS r.op)) (.str (opS .eq)) = decide (r.op = .eq) := fun r => eqv_op _ _
  let opOf : D → Str := fun d => match d with | .tuple [_, .str s, _] => s | _ => ""
  let xy : D → D := fun d => match d with | .tuple [x, _, y] => .tuple [x, y] | _ => .none
  let yx : D → D := fun d => match d with | .tuple [x, _, y] => .tuple [y, x] | _ => .none
  walk_at "w"
  refine lcGo_fm (ds := [.fz (.tuple (rs.map ruleD)), .no, .no, .no]) (all := rs.map ruleD) (fun d => !PyData.eqv (.str (opOf d)) (.str (opS .ne))) xy (fun P p => p) (fun d hd A B hA hB => ?_) (fun _ h => h) (by simp; omega) ?_
  · obtain ⟨r, hr, rfl⟩ := List.mem_map.mp hd
    walk_at "w"
    refine oNe_i (!PyData.eqv (.str (opS r.op)) (.str (opS .ne))) rfl ?_ ?_
    · simp [depth_str]
    refine br_i (fun hb => ?_) (fun hb => ?_)
    · exact hA hb _ rfl
    · exact hB hb _ rfl
  · walk_at "w"
    refine lcGo_fm (ds := [.fz (.tuple (rs.map ruleD)), .no, .no, .no]) (all := rs.map ruleD) (fun d => PyData.eqv (.str (opOf d)) (.str (opS .eq))) yx (fun P p => p) (fun d hd A B hA hB => ?_) (fun _ h => h) (by simp; omega) ?_
    · obtain ⟨r, hr, rfl⟩ := List.mem_map.mp hd
      walk_at "w"
      refine oEq_i (PyData.eqv (.str (opS r.op)) (.str (opS .eq))) rfl ?_ ?_
      · simp [depth_str]
      refine br_i (fun hb => ?_) (fun hb => ?_)
      · exact hA hb _ rfl
      · exact hB hb _ rfl
    · have e1 : List.map xy (List.filter (fun d => !PyData.eqv (.str (opOf d)) (.str (opS .ne))) (rs.map ruleD)) = ((rs.filter fun r => decide (r.op ≠ .ne)).map fun r => (r.x, r.y)).map pairD := by
        rw [List.filter_map, List.map_map, List.map_map]
        have : (List.filter ((fun d => !PyData.eqv (.str (opOf d)) (.str (opS .ne))) ∘ ruleD) rs) = rs.filter fun r => decide (r.op ≠ .ne) := List.filter_congr fun r _ => isne r
        rw [this]
        rfl
      have e2 : List.map yx (List.filter (fun d => PyData.eqv (.str (opOf d)) (.str (opS .eq))) (rs.map ruleD)) = ((rs.filter fun r => decide (r.op = .eq)).map fun r => (r.y, r.x)).map pairD := by
        rw [List.filter_map, List.map_map, List.map_map]
        have : (List.filter ((fun d => PyData.eqv (.str (opOf d)) (.str (opS .eq))) ∘ ruleD) rs) = rs.filter fun r => decide (r.op = .eq) := List.filter_congr fun r _ => iseq r
        rw [this]
        rfl
      rw [List.nil_append, List.nil_append, e1, e2]
      walk_at "w"
      refine ⟨?_, ?_⟩
      · simp only [List.length_map]
        have a1 := List.length_filter_le (fun r : Rule => decide (r.op ≠ .ne)) rs
        have a2 := List.length_filter_le (fun r : Rule => decide (r.op = .eq)) rs
        omega
      · rw [← List.map_append]
        exact k
end PV
end
section
set_option Elab.async false
set_option linter.all false
set_option maxRecDepth 100000
set_option maxHeartbeats 4000000
/-! walks of zip -/
namespace PV
open PySem PySem.W PyProof.Rows L2
def zipD : List D → List D → List D
  | x :: xs, y :: ys => .tuple [x, y] :: zipD xs ys
  | _, _ => []
theorem zipD_get : ∀ {xs ys : List D} {k : Nat} {d : D}, (zipD xs ys)[k]? = some d → ∃ x y, xs[k]? = some x ∧ ys[k]? = some y ∧ d = .tuple [x, y]
  | x :: xs, y :: ys, 0, d, h => by
    simp [zipD] at h
    exact ⟨x, y, rfl, rfl, h.symm⟩
  | x :: xs, y :: ys, k + 1, d, h => by
    simp only [zipD, List.getElem?_cons_succ] at h ⊢
    exact zipD_get h
  | [], _, k, d, h => by simp [zipD] at h
  | _ :: _, [], k, d, h => by simp [zipD] at h
theorem zipD_len : ∀ {xs ys : List D}, xs.length ≤ (zipD xs ys).length ∨ ys.length ≤ (zipD xs ys).length
  | x :: xs, y :: ys => by
    simp only [zipD, List.length_cons]
    have := zipD_len (xs := xs) (ys := ys)
    omega
  | [], _ => .inl (Nat.zero_le _)
  | _ :: _, [] => .inr (Nat.zero_le _)
section
variable {X : Cx} {tg e : Expr} {pn : List Nat} {pos : Pos}
theorem itz_ok {σ : L2.St} {G : Hp} {a b : Addr} {vs ws : List V} {xs ys : List D} (h : SqL X.K G a vs) (p : DpAll X.K G vs xs) (h' : SqL X.K G b ws) (p' : DpAll X.K G ws ys) : ItOk X.K pn σ G ⟨zipD xs ys, none⟩ (Itz X.K a b) := by
  intro G1 ds1 σ1 H1 R1 s _ _
  have h1 : SqL X.K H1 a vs := SqL.mo (s.trans R1.sub) h
  have h2 : SqL X.K H1 b ws := SqL.mo (s.trans R1.sub) h'
  refine ⟨⟨vs, ws, h1, h2, by rw [p.len, p'.len]; exact zipD_len⟩, fun k d e => ?_⟩
  obtain ⟨x, y, e1, e2, rfl⟩ := zipD_get e
  obtain ⟨v, f1, f2⟩ := p.get e1
  obtain ⟨w, g1, g2⟩ := p'.get e2
  refine ⟨⟨vs, ws, v, w, h1, h2, f1, g1⟩, fun v' H' q => ?_⟩
  obtain ⟨T, v2, w2, rfl, hn, rfl, q1, q2⟩ := q
  have q1 := q1 vs h1
  have q2 := q2 ws h2
  rw [f1] at q1; cases q1
  rw [g1] at q2; cases q2
  obtain ⟨z1, z2, z3⟩ := new_tup R1 (vs := [v, w]) (es := [x, y]) (.cons (Dp.mo s _ _ f2) (.cons (Dp.mo s _ _ g2) .nil)) hn
  exact ⟨_, z1, z2, z3⟩
theorem itzT_ok {σ : L2.St} {G : Hp} {a b : Addr} {vs ws : List V} {xs ys : List D} (h : SqT X.K G a vs) (p : DpAll X.K G vs xs) (h' : SqT X.K G b ws) (p' : DpAll X.K G ws ys) : ItOk X.K pn σ G ⟨zipD xs ys, none⟩ (RZ.ItzT X.K a b) := by
  intro G1 ds1 σ1 H1 R1 s _ _
  have h1 : SqT X.K H1 a vs := SqT.mo (s.trans R1.sub) h
  have h2 : SqT X.K H1 b ws := SqT.mo (s.trans R1.sub) h'
  refine ⟨⟨vs, ws, h1, h2, by rw [p.len, p'.len]; exact zipD_len⟩, fun k d e => ?_⟩
  obtain ⟨x, y, e1, e2, rfl⟩ := zipD_get e
  obtain ⟨v, f1, f2⟩ := p.get e1
  obtain ⟨w, g1, g2⟩ := p'.get e2
  refine ⟨⟨vs, ws, v, w, h1, h2, f1, g1⟩, fun v' H' q => ?_⟩
  obtain ⟨T, v2, w2, rfl, hn, rfl, q1, q2⟩ := q
  have q1 := q1 vs h1
  have q2 := q2 ws h2
  rw [f1] at q1; cases q1
  rw [g1] at q2; cases q2
  obtain ⟨z1, z2, z3⟩ := new_tup R1 (vs := [v, w]) (es := [x, y]) (.cons (Dp.mo s _ _ f2) (.cons (Dp.mo s _ _ g2) .nil)) hn
  exact ⟨_, z1, z2, z3⟩
def iZip (f : DA) : DI := fun ds Q => f ds fun es ds1 => frzAll es ds1 fun xs ds2 => match xs with
  | [.list a, .list b] => Q ⟨zipD a b, none⟩ ds2
  | [.tuple a, .tuple b] => Q ⟨zipD a b, none⟩ ds2
  | _ => False
variable {a b : Expr} {p : Pos} {fa : DA}
theorem pvi_zip {elts : List Expr} {kk : Nat} {tpos : Pos} (hg : Gl X "zip") (hm : X.mg "zip" = none) (ha : PVA X [a, b] fa)
    (hs : starEach [a, b] X.env = (false, eval a X.env) :: starEach [b] X.env := by rfl) (hpl : (backTo pos (starEach [b] X.env)).any (·.1) = false := by rfl) :
    PVI X pn (.Tuple elts kk tpos) (.Call (.Name "zip" p) [a, b] [] pos) (iZip fa) := by
  obtain ⟨t, h1, h2⟩ := ha
  refine ⟨_, RZ.pi_zipA hg hm h1 hs hpl, fun G ds σ H DQ R RR hf k => h2 G ds σ H _ _ RR hf fun es ds1 vs G1 H1 q1 R1 x1 r1 => ?_⟩
  obtain ⟨xs, ds2, G2, q2, R2, p2, x2⟩ := frzAll_ok R1 r1 q1
  split at q2
  · cases p2 with
    | cons u1 r =>
      cases r with
      | cons u2 r =>
        cases r
        cases u1 with
        | lst s1 a1 =>
          cases u2 with
          | lst s2 a2 => exact ⟨_, _, _, _, rfl, .inl ⟨SqL.mo R2.sub s1, SqL.mo R2.sub s2, k _ _ _ _ _ q2 R2 (x1.trans x2) (itz_ok s1 a1 s2 a2)⟩⟩
  · cases p2 with
    | cons u1 r =>
      cases r with
      | cons u2 r =>
        cases r
        cases u1 with
        | tup s1 a1 =>
          cases u2 with
          | tup s2 a2 => exact ⟨_, _, _, _, rfl, .inr ⟨SqT.mo R2.sub s1, SqT.mo R2.sub s2, k _ _ _ _ _ q2 R2 (x1.trans x2) (itzT_ok s1 a1 s2 a2)⟩⟩
  · exact q2.elim
end
end PV
end
section
set_option Elab.async false
set_option linter.all false
set_option maxRecDepth 100000
set_option maxHeartbeats 4000000
/-! t[::-1] of lists and of tuples -/
namespace HT
open PySem PySem.Spec PyProof.Rows
section
variable {prog : Program} {w : World} {A : Around} {E : Value → Shared → Prop} {s : Shared}
theorem fm_congr {α β : Type} {f g : α → Option β} : ∀ {l : List α}, (∀ x ∈ l, f x = g x) → l.filterMap f = l.filterMap g
  | [], _ => rfl
  | a :: l, h => by
    rw [List.filterMap_cons, List.filterMap_cons, h a List.mem_cons_self, fm_congr fun x hx => h x (List.mem_cons_of_mem _ hx)]
theorem places_rev (n : Nat) : Builtin.Slice.slicePlaces ((n : Int) - 1) (-1) (-1) = n := by
  unfold Builtin.Slice.slicePlaces
  have h1 : ¬ ((-1 : Int) > 0) := by omega
  simp only [h1, if_false]
  have e2 : (- (-1 : Int)) = 1 := by omega
  rw [e2, Int.ediv_one]
  split <;> omega
theorem sliceApplied_rev {sl : Addr} {vl vu vs : Value} {n : Nat} {Q : Int × Int × Nat → Shared → Prop} (hs : s.heap.IsSliceOf sl vl vu vs) (pl : IsPart vl none) (pu : IsPart vu none) (ps : IsPart vs (some (-1)))
    (h : Q ((n : Int) - 1, -1, n) s) : wpAny (model prog w) A (Builtin.Slice.sliceApplied (.ref sl) (pure (n : Int))) Q E s := by
  obtain ⟨os, hos, hcs, hds⟩ := id hs
  unfold Builtin.Slice.sliceApplied Builtin.Slice.sliceFields
  refine wpAny_bind (wpAny_bind (wpAny_field hos hds (x := vl) rfl (wpAny_bind (wpAny_field hos hds (x := vu) rfl (wpAny_bind (wpAny_field hos hds (x := vs) rfl (wpAny_pure ?_)))))))
  refine wpAny_bind (slicePart_ ps ?_)
  show wpAny _ _ (if ((-1 : Int) == 0) = true then _ else _) _ _ s
  rw [if_neg (by decide)]
  refine wpAny_bind (slicePart_ pl (wpAny_bind (slicePart_ pu (wpAny_bind (wpAny_pure ?_)))))
  show wpAny _ _ (pure ((n : Int) - 1, (-1 : Int), Builtin.Slice.slicePlaces ((n : Int) - 1) (-1) (-1))) _ _ s
  rw [places_rev]
  exact wpAny_pure h
theorem pick_rev (xs : Array Value) : ((List.range xs.size).filterMap fun (m : Nat) => xs[(((xs.size : Int) - 1) + (m : Int) * (-1)).toNat]?).toArray = xs.toList.reverse.toArray := by
  have h := PySem.W.krv_pick xs
  rw [← h]
  unfold slicePick
  rw [PySem.W.krv_bounds]
  show _ = ((sliceRange ((xs.size : Int) - 1) (-1) (-1)).filterMap (xs[·]?)).toArray
  rw [PySem.W.krv_sliceRange, List.filterMap_map]
  congr 1
  refine fm_congr fun m hm => ?_
  have := List.mem_range.mp hm
  show xs[(((xs.size : Int) - 1) + (m : Int) * (-1)).toNat]? = xs[xs.size - 1 - m]?
  congr 1
  omega
theorem getItem_tuple_rev {t sl : Addr} {items : Array Value} {vl vu vs : Value} {Q : Value → Shared → Prop} (ht : IsTup s.heap t items) (hs : s.heap.IsSliceOf sl vl vu vs) (pl : IsPart vl none) (pu : IsPart vu none) (ps : IsPart vs (some (-1)))
    (h : Q (.ref s.heap.objs.size) { s with heap := s.heap.push { cls := .type "tuple", data := .seq items.toList.reverse.toArray } })
    (hsz : items.size ≤ sizeLine) : wpAny (model prog w) A (getItem (.ref t) (.ref sl)) Q E s := by
  have htake : sizeOk (.seq items.toList.reverse.toArray) := by
    show items.toList.reverse.toArray.size ≤ sizeLine
    rw [List.size_toArray, List.length_reverse, Array.length_toList]
    exact hsz
  obtain ⟨os, hos, hcs, hds⟩ := id hs
  have hTs : s.TypeIs (.ref sl) "slice" := ⟨os, hos, hcs⟩
  unfold getItem
  try with_reducible refine wpAny_holding ?_
  first | refine wpAny_bind (wpAny_pure ?_) | skip
  refine wpAny_bind (wpAny_sequenceKey ht.typeIs (by decide) ?_)
  refine wpAny_bind (wpAny_callSpecial?_slot (name := Str.ofString "__getitem__") ht.typeIs PyProof.Rows.slot_tuple_getitem
    (wpAny_call_entry PyProof.Rows.slot_tuple_getitem ht.typeIs entry_tuple_getitem ?_ (args_tuple_getitem _ _)))
  show wpAny _ _ (Builtin.Tuple.tupleItemsOf (.ref t) >>= _) _ _ s
  refine wpAny_bind (tupleItemsOf_ ht ?_)
  refine wpAny_bind (wpAny_typeOf hTs ?_)
  rw [if_pos (by decide)]
  refine wpAny_bind (sliceApplied_rev hs pl pu ps ?_)
  have hno : ¬ ((((items.size : Int) - 1) == 0 && (-1 : Int) == 1 && items.size == items.size) = true) := by
    intro q
    rw [Bool.and_eq_true, Bool.and_eq_true] at q
    exact absurd q.1.2 (by decide)
  show wpAny _ _ (if (((items.size : Int) - 1) == 0 && (-1 : Int) == 1 && items.size == items.size) = true then _ else _) _ _ s
  rw [if_neg hno, pick_rev]
  first
    | exact wpAny_bind (m := Builtin.Tuple.tupleExact _) (wpAny_newObj_type (wpAny_pure ⟨_, rfl, wpAny_pure h⟩) htake)
    | exact wpAny_bind (m := Builtin.Tuple.tupleExact _) (wpAny_newObj_type (wpAny_bind (wpAny_pure (wpAny_pure ⟨_, rfl, wpAny_pure h⟩))) htake)
    | exact wpAny_bind (wpAny_bind (m := Builtin.Tuple.tupleExact _) (wpAny_newObj_type (wpAny_pure (wpAny_pure ⟨_, rfl, wpAny_pure h⟩)) htake))
    | exact wpAny_bind (wpAny_bind (m := Builtin.Tuple.tupleExact _) (wpAny_newObj_type (wpAny_pure ⟨_, rfl, wpAny_pure h⟩) htake))
end
end HT
namespace L2
open PySem PySem.Spec PyProof.Rows
section
variable {X : Cx}
def tRevA (K : PySem.W.Frag) (te : TE) : TE := fun σ H Q => te σ H fun x H1 => ∃ a xs, x = .ref a ∧
  ((SqL K H1 a xs ∧ ∀ p, H1 p = none → Q (.ref p) (upd H1 p (.lst xs.reverse))) ∨ (SqT K H1 a xs ∧ ∀ p, H1 p = none → Q (.ref p) (upd H1 p (.tup xs.reverse))))
theorem pe_revA {e : Expr} {te : TE} {k : Nat} {p1 p2 p3 pos : Pos} (he : PE X e te) : PE X (.Subscript e (.Slice none none (some (.UnaryOp .USub (.Constant (.int 1) k p1) p2)) p3) pos) (tRevA X.K te) := by
  refine ⟨fun pins s σ H Q I h => ?_⟩
  refine Subscript_ (thn (he.run pins s σ H _ I h) fun v s1 ⟨x, H1, I1, r1, q1⟩ => ?_)
  obtain ⟨a, xs, ex, q⟩ := q1
  subst ex
  cases r1
  have hst : PO X (some (.UnaryOp .USub (.Constant (.int 1) k p1) p2)) (tPart (tUn (rU fun i => .int (-i)) (tC (.int 1)))) := po_some (pe_un un_neg pe_int)
  refine wpAny_Slice (thn (po_none.run pins s1 σ H1 (fun o H2 => o = none ∧ H2 = H1) I1 ⟨rfl, rfl⟩) fun vl s2 ⟨l, H2, I2, pl, el, e2⟩ => ?_)
  subst el e2
  refine thn (po_none.run pins s2 σ H2 (fun o H3 => o = none ∧ H3 = H2) I2 ⟨rfl, rfl⟩) fun vu s3 ⟨u, H3, I3, pu, eu, e3⟩ => ?_
  subst eu e3
  refine thn (hst.run pins s3 σ H3 (fun o H4 => o = some (-1) ∧ H4 = H3) I3 ⟨1, rfl, -1, rfl, rfl, rfl⟩) fun vs s4 ⟨o, H4, I4, ps, eo, e4⟩ => ?_
  subst eo e4
  have I5 : Inv X pins σ H4 { s4 with heap := s4.heap.push { cls := .type "slice", data := .fields #[vl, vu, vs] } } := I4.kept (t' := s4.toks) fun b ob q => Heap.get?_push_of_some _ q
  show wpAny (model X.prog X.w) X.A (subscriptTail e (.Slice none none (some (.UnaryOp .USub (.Constant (.int 1) k p1) p2)) p3) (.ref a) (.ref s4.heap.objs.size)) (EP X pins σ Q) X.xe { s4 with heap := s4.heap.push { cls := .type "slice", data := .fields #[vl, vu, vs] } }
  rcases q with ⟨hx, q⟩ | ⟨hx, q⟩
  · obtain ⟨its, r, ht, hz⟩ := I5.list hx
    have hlen := r.length
    refine tail_any (ops := [.ref a, .ref s4.heap.objs.size]) ht.isList.typeIs (PySem.slot_list_getitem.lookup) ?_ (by with_unfolding_all rfl)
    refine wpAny_getItem_list_slice ht.isList (Heap.IsSliceOf.new _ vl vu vs) pl pu ps (by decide) ?_ (by rw [List.size_toArray]; omega)
    rw [PySem.W.krv_pick]
    refine ⟨.ref _, _, I5.laid (t' := s4.toks) (o := .lst xs.reverse) (fun b ob q => Heap.get?_push_of_some _ q) (Nat.le_refl _) ?_, rfl, q _ (I5.hok.fresh (Nat.le_refl _))⟩
    exact ⟨by rw [List.length_reverse]; exact hz, _, 0, r.reverse, Heap.get?_push_size _ rfl⟩
  · obtain ⟨its, r, ht, hz⟩ := I5.tuple hx
    have hlen : its.toArray.size = xs.length := by rw [List.size_toArray]; exact r.length.symm
    refine tail_any (ops := [.ref a, .ref s4.heap.objs.size]) ht.typeIs (PyProof.Rows.slot_tuple_getitem.lookup) ?_ (by with_unfolding_all rfl)
    refine HT.getItem_tuple_rev ht (Heap.IsSliceOf.new _ vl vu vs) pl pu ps ?_ (by rw [hlen]; exact hz)
    refine ⟨.ref _, _, I5.laid (t' := s4.toks) (o := .tup xs.reverse) (fun b ob q => Heap.get?_push_of_some _ q) (Nat.le_refl _) ?_, rfl, q _ (I5.hok.fresh (Nat.le_refl _))⟩
    exact ⟨by rw [List.length_reverse]; exact hz, _, r.reverse, IsTup.new _ _⟩
end
end L2
namespace PV
open PySem L2
def eRev (f : DE) : DE := fun ds Q => f ds fun e ds1 => rd (nm e) ds1 fun d => match d with
  | .list xs => Q (.fresh (.list xs.reverse)) ds1
  | .tuple xs => Q (.val (.tuple xs.reverse)) ds1
  | _ => False
section
variable {X : Cx}
theorem DpAll.rev {K : PySem.W.Frag} {H : Hp} : ∀ {vs : List V} {ds : List D}, DpAll K H vs ds → DpAll K H vs.reverse ds.reverse
  | _, _, .nil => .nil
  | _, _, .cons h t => by
    rw [List.reverse_cons, List.reverse_cons]
    exact DpAll.app (DpAll.rev t) (.cons h .nil)
theorem pve_rev {e : Expr} {f : DE} {k : Nat} {p1 p2 p3 pos : Pos} (he : PVE X e f) : PVE X (.Subscript e (.Slice none none (some (.UnaryOp .USub (.Constant (.int 1) k p1) p2)) p3) pos) (eRev f) := by
  obtain ⟨t, h1, h2⟩ := he
  refine ⟨_, pe_revA h1, fun G ds σ H DQ Q R hf k => h2 G ds σ H _ _ R hf fun e1 ds1 v1 G1 H1 q1 R1 x1 r1 n1 => ?_⟩
  obtain ⟨G1', R1', x1', r1'⟩ := nm_ok R1 x1 r1 n1
  obtain ⟨d, sh, q4⟩ := rd_sh (v := v1) R1' r1' q1
  split at q4
  · obtain ⟨a, vs, rfl, q5, q6⟩ := sh.list R1'.sub
    refine ⟨a, vs, rfl, .inl ⟨q5, fun p hp => ?_⟩⟩
    obtain ⟨z1, z2, z3, z4⟩ := new_list R1' (DpAll.rev q6) hp
    exact k _ _ _ _ _ q4 z1 (x1'.trans z2) z3 (x1'.back z4)
  · obtain ⟨a, vs, rfl, q5, q6⟩ := sh.tuple R1'.sub
    refine ⟨a, vs, rfl, .inr ⟨q5, fun p hp => ?_⟩⟩
    obtain ⟨z1, z2, z3⟩ := new_tup R1' (DpAll.rev q6) hp
    exact k _ _ _ _ _ q4 z1 (x1'.trans z2) z3 trivial
  · exact q4.elim
end
end PV
end
section
set_option Elab.async false
set_option linter.all false
set_option maxRecDepth 100000
set_option maxHeartbeats 4000000
/-! tuple * int -/
namespace PV
open PySem L2
def oRep : DOp := fun d1 d2 Q => match d1, d2 with
  | .tuple xs, .int k => (xs ≠ [] ∧ 2 ≤ k ∧ k ≤ 1000 ∧ xs.length ≤ 1000) ∧ Q (.val (.tuple (List.replicate k.toNat xs).flatten))
  | _, _ => False
theorem DpAll.rep {K : PySem.W.Frag} {H : Hp} {vs : List V} {ds : List D} (h : DpAll K H vs ds) : ∀ n, DpAll K H (List.replicate n vs).flatten (List.replicate n ds).flatten
  | 0 => .nil
  | n + 1 => by
    rw [List.replicate_succ, List.replicate_succ, List.flatten_cons, List.flatten_cons]
    exact DpAll.app h (DpAll.rep h n)
section
variable {X : Cx}
theorem opv_rep : OpV X (binaryOp .Mult) oRep := by
  refine ⟨_, op_repT, fun G ds σ H x y d1 d2 DQ Q R sx sy hq k => ?_⟩
  unfold oRep at hq
  split at hq
  · obtain ⟨a, vs, rfl, q1, q2⟩ := sx.tuple R.sub
    obtain ⟨⟨c1, c2, c3, c4⟩, q⟩ := hq
    refine ⟨_, _, _, rfl, sy.int, q1, fun e => c1 (by
      have := q2.len
      rw [e] at this
      exact List.eq_nil_of_length_eq_zero this.symm), c2, c3, by rw [q2.len]; exact c4, fun p hp => ?_⟩
    obtain ⟨z1, z2, z3⟩ := new_tup R (DpAll.rep q2 _) hp
    exact k _ _ _ _ q z1 z2 z3 trivial
  · exact hq.elim
end
end PV
end
section
set_option Elab.async false
set_option linter.all false
set_option maxRecDepth 100000
set_option maxHeartbeats 4000000
namespace K11
open PySem L2 PV
def b_is_whole : DSt :=
  (sRet [0] (eAnd (eIsi "int" (eVar 0)) (eNot (eIsi "bool" (eVar 0)))))
@[irreducible] def m_is_whole : DSp := runF [true] 0 b_is_whole
def b_holds : DSt :=
  (sSeq (sIf (tB (eOp oEq (eVar 1) (eC (.str "eq")))) (sRet [0, 1, 2] (eOp oEq (eVar 0) (eVar 2))) sNil)
    (sSeq (sIf (tB (eOp oEq (eVar 1) (eC (.str "ne")))) (sRet [0, 1, 2] (eOp oNe (eVar 0) (eVar 2))) sNil)
    (sSeq (sIf (tB (eOp oEq (eVar 1) (eC (.str "lt")))) (sRet [0, 1, 2] (eOp oLt (eVar 0) (eVar 2))) sNil)
    (sRet [0, 1, 2] (eOp oLe (eVar 0) (eVar 2))))))
@[irreducible] def m_holds : DSp := runF [true, true, true] 0 b_holds
def b_apart_pairs : DSt :=
  (sRet [0] (eLc (iSlot 0) [1, 2, 3] (gT 3 (gCs (gN 1) (gCs (gN 2) (gCs (gN 3) gNl)))) (tOr (tB (eOp oEq (eVar 2) (eC (.str "ne")))) (tB (eOp oEq (eVar 2) (eC (.str "lt"))))) (eFz (eTup (aCons (eVar 1) (aCons (eVar 3) aNil))))))
@[irreducible] def m_apart_pairs : DSp := runF [true] 3 b_apart_pairs
def b_meets : DSt :=
  (sRet [0, 1] (eBi cAll (aCons (eLc (iSlot 0) [2, 3, 4] (gT 3 (gCs (gN 2) (gCs (gN 3) (gCs (gN 4) gNl)))) tTrue (eFz (eCall m_holds 3 [false, true, false] (aCons (eIx (eVar 1) (eVar 2)) (aCons (eVar 3) (aCons (eIx (eVar 1) (eVar 4)) aNil)))))) aNil)))
@[irreducible] def m_meets : DSp := runF [true, true] 3 b_meets
def b_judge_ring : DSt :=
  (sSeq (sIf (tOr (tNot (tTr (eIsi "tuple" (eVar 1)))) (tNot (tTr (eIsi "tuple" (eVar 2))))) (sRet [0, 1, 2] (eC (.bool false))) sNil)
    (sSeq (sIf (tOr (tB (eOp oLt (eBi cLen (aCons (eVar 1) aNil)) (eC (.int 2)))) (tOr (tB (eOp oNe (eIx (eVar 1) (eC (.int 0))) (eIx (eVar 1) (eNeg (eC (.int 1)))))) (tB (eOp oNe (eBi cLen (aCons (eVar 2) aNil)) (eC (.int 2)))))) (sRet [0, 1, 2] (eC (.bool false))) sNil)
    (sSeq (sSet 3 (eCall m_steps_of 1 [true] (aCons (eVar 0) aNil)))
    (sSeq (sFor (iZip (aCons (eSl (eVar 1) pNo (pSome (eNeg (eC (.int 1))))) (aCons (eSl (eVar 1) (pSome (eC (.int 1))) pNo) aNil))) (gT 2 (gCs (gN 4) (gCs (gN 5) gNl))) (sIf (tB (eOp oNotIn (eTup (aCons (eVar 4) (aCons (eVar 5) aNil))) (eVar 3))) (sRet [0, 1, 2] (eC (.bool false))) sNil))
    (sSeq (sAsg (eFz (eVar 2)) (gT 2 (gCs (gN 4) (gCs (gN 5) gNl))))
    (sSeq (sSet 6 (eCall m_apart_pairs 1 [true] (aCons (eVar 0) aNil)))
    (sRet [0, 1, 2] (eAnd (eOp oIn (eVar 4) (eVar 1)) (eAnd (eOp oIn (eVar 5) (eVar 1)) (eOr (eOp oIn (eTup (aCons (eVar 4) (aCons (eVar 5) aNil))) (eVar 6)) (eOp oIn (eTup (aCons (eVar 5) (aCons (eVar 4) aNil))) (eVar 6))))))))))))
@[irreducible] def m_judge_ring : DSp := runF [true, true, true] 4 b_judge_ring
def b_judge_meeting : DSt :=
  (sSeq (sIf (tAnd (tB (eOp oEq (eBi cLen (aCons (eVar 2) aNil)) (eC (.int 2)))) (tB (eOp oEq (eIx (eVar 2) (eC (.int 0))) (eC (.str "numbers"))))) (sSeq (sSet 3 (eIx (eVar 2) (eC (.int 1))))
    (sSeq (sIf (tOr (tNot (tTr (eIsi "tuple" (eVar 3)))) (tB (eOp oNe (eBi cLen (aCons (eVar 3) aNil)) (eVar 0)))) (sRet [0, 1, 2] (eC (.bool false))) sNil)
    (sRet [0, 1, 2] (eAnd (eBi cAll (aCons (eLc (iSlot 3) [4] (gN 4) tTrue (eFz (eCall m_is_whole 1 [true] (aCons (eVar 4) aNil)))) aNil)) (eCall m_meets 2 [true, true] (aCons (eVar 1) (aCons (eVar 3) aNil))))))) sNil)
    (sSeq (sIf (tAnd (tB (eOp oEq (eBi cLen (aCons (eVar 2) aNil)) (eC (.int 3)))) (tB (eOp oEq (eIx (eVar 2) (eC (.int 0))) (eC (.str "ring"))))) (sRet [0, 1, 2] (eCall m_judge_ring 3 [true, false, false] (aCons (eVar 1) (aCons (eIx (eVar 2) (eC (.int 1))) (aCons (eIx (eVar 2) (eC (.int 2))) aNil))))) sNil)
    (sRet [0, 1, 2] (eC (.bool false)))))
@[irreducible] def m_judge_meeting : DSp := runF [true, true, true] 2 b_judge_meeting
def b_L_holds : DSt :=
  (sSeq (sIf (tB (eOp oEq (eVar 1) (eC (.str "eq")))) (sRet [0, 1, 2] (eOp oEq (eVar 0) (eVar 2))) sNil)
    (sSeq (sIf (tB (eOp oEq (eVar 1) (eC (.str "ne")))) (sRet [0, 1, 2] (eOp oNe (eVar 0) (eVar 2))) sNil)
    (sRet [0, 1, 2] (eOr (eOp oLt (eVar 0) (eVar 2)) (eAnd (eOp oEq (eVar 1) (eC (.str "le"))) (eOp oEq (eVar 0) (eVar 2)))))))
@[irreducible] def m_L_holds : DSp := runF [true, true, true] 0 b_L_holds
def b_L_apart : DSt :=
  (sRet [0] (eLc (iSlot 0) [1, 2, 3] (gT 3 (gCs (gN 1) (gCs (gN 2) (gCs (gN 3) gNl)))) (tB (eOp oIn (eVar 2) (eTup (aCons (eC (.str "lt")) (aCons (eC (.str "ne")) aNil))))) (eFz (eTup (aCons (eVar 1) (aCons (eVar 3) aNil))))))
@[irreducible] def m_L_apart : DSp := runF [true] 3 b_L_apart
def b_L_meets : DSt :=
  (sRet [0, 1] (eBi cAll (aCons (eLc (iSlot 0) [2, 3, 4] (gT 3 (gCs (gN 2) (gCs (gN 3) (gCs (gN 4) gNl)))) tTrue (eFz (eCall m_L_holds 3 [false, true, false] (aCons (eIx (eVar 1) (eVar 2)) (aCons (eVar 3) (aCons (eIx (eVar 1) (eVar 4)) aNil)))))) aNil)))
@[irreducible] def m_L_meets : DSp := runF [true, true] 3 b_L_meets
def b_L_drawn_rules : DSt :=
  (sSeq (sSet 3 (eLst aNil))
    (sSeq (sFor (iRange1 (aCons (eVar 2) aNil)) (gN 4) (sSeq (sSet 5 (eLRg (rg1 (eVar 1))))
    (sSeq (sSet 6 (eCall m_L_pop 2 [true, true] (aCons (eVar 0) (aCons (eVar 5) aNil))))
    (sEx (eMut 3 mApp (aCons (eTup (aCons (eVar 6) (aCons (eCall m_L_pick 2 [true, false] (aCons (eVar 0) (aCons (eLst (aCons (eC (.str "lt")) (aCons (eC (.str "le")) (aCons (eC (.str "le")) (aCons (eC (.str "ne")) (aCons (eC (.str "ne")) (aCons (eC (.str "eq")) aNil))))))) aNil))) (aCons (eCall m_L_pick 2 [true, true] (aCons (eVar 0) (aCons (eVar 5) aNil))) aNil)))) aNil))))))
    (sRet [0, 1, 2] (eBi cTuple (aCons (eVar 3) aNil)))))
@[irreducible] def m_L_drawn_rules : DSp := runF [true, true, true] 4 b_L_drawn_rules
def b_L_is_ring : DSt :=
  (sSeq (sIf (tOr (tB (eOp oEq (eBi cLen (aCons (eVar 1) aNil)) (eC (.int 0)))) (tB (eOp oNe (eBi cLen (aCons (eVar 2) aNil)) (eC (.int 2))))) (sRet [0, 1, 2] (eC (.bool false))) sNil)
    (sSeq (sSet 3 (eCall m_L_steps 1 [true] (aCons (eVar 0) aNil)))
    (sSeq (sFor (iRange1 (aCons (eOp oSub (eBi cLen (aCons (eVar 1) aNil)) (eC (.int 1))) aNil)) (gN 4) (sIf (tB (eOp oNotIn (eTup (aCons (eIx (eVar 1) (eVar 4)) (aCons (eIx (eVar 1) (eOp oAdd (eVar 4) (eC (.int 1)))) aNil))) (eVar 3))) (sRet [0, 1, 2] (eC (.bool false))) sNil))
    (sSeq (sIf (tOr (tB (eOp oNe (eIx (eVar 1) (eC (.int 0))) (eIx (eVar 1) (eOp oSub (eBi cLen (aCons (eVar 1) aNil)) (eC (.int 1)))))) (tOr (tB (eOp oNotIn (eIx (eVar 2) (eC (.int 0))) (eVar 1))) (tB (eOp oNotIn (eIx (eVar 2) (eC (.int 1))) (eVar 1))))) (sRet [0, 1, 2] (eC (.bool false))) sNil)
    (sSeq (sSet 5 (eCall m_L_apart 1 [true] (aCons (eVar 0) aNil)))
    (sRet [0, 1, 2] (eOr (eOp oIn (eTup (aCons (eIx (eVar 2) (eC (.int 0))) (aCons (eIx (eVar 2) (eC (.int 1))) aNil))) (eVar 5)) (eOp oIn (eTup (aCons (eIx (eVar 2) (eC (.int 1))) (aCons (eIx (eVar 2) (eC (.int 0))) aNil))) (eVar 5)))))))))
@[irreducible] def m_L_is_ring : DSp := runF [true, true, true] 3 b_L_is_ring
def b_L_takes : DSt :=
  (sSeq (sIf (tAnd (tB (eOp oEq (eBi cLen (aCons (eVar 2) aNil)) (eC (.int 2)))) (tB (eOp oEq (eIx (eVar 2) (eC (.int 0))) (eC (.str "numbers"))))) (sRet [0, 1, 2] (eAnd (eOp oEq (eBi cLen (aCons (eIx (eVar 2) (eC (.int 1))) aNil)) (eVar 0)) (eCall m_L_meets 2 [true, false] (aCons (eVar 1) (aCons (eIx (eVar 2) (eC (.int 1))) aNil))))) sNil)
    (sSeq (sIf (tAnd (tB (eOp oEq (eBi cLen (aCons (eVar 2) aNil)) (eC (.int 3)))) (tB (eOp oEq (eIx (eVar 2) (eC (.int 0))) (eC (.str "ring"))))) (sRet [0, 1, 2] (eCall m_L_is_ring 3 [true, false, false] (aCons (eVar 1) (aCons (eIx (eVar 2) (eC (.int 1))) (aCons (eIx (eVar 2) (eC (.int 2))) aNil))))) sNil)
    (sRet [0, 1, 2] (eC (.bool false)))))
@[irreducible] def m_L_takes : DSp := runF [true, true, true] 0 b_L_takes
def b_L_is_answer : DSt :=
  (sSeq (sSet 3 (eCall m_judge_meeting 3 [true, true, true] (aCons (eVar 0) (aCons (eVar 1) (aCons (eVar 2) aNil)))))
    (sRet [0, 1, 2] (eAnd (eIsi "bool" (eVar 3)) (eOp oEq (eVar 3) (eCall m_L_takes 3 [true, true, true] (aCons (eVar 0) (aCons (eVar 1) (aCons (eVar 2) aNil))))))))
@[irreducible] def m_L_is_answer : DSp := runF [true, true, true] 1 b_L_is_answer
def b_L_number : DSt :=
  (sRet [0] (eCall m_L_pick 2 [true, false] (aCons (eVar 0) (aCons (eLst (aCons (eC (.int 0)) (aCons (eC (.int 1)) (aCons (eC (.int 2)) (aCons (eC (.int 3)) (aCons (eC (.int 0)) (aCons (eC (.int 1)) (aCons (eNeg (eC (.int 1))) (aCons (eNeg (eC (.int 7))) (aCons (eC (.int 40)) (aCons (eOp oPow (eC (.int 10)) (eC (.int 12))) (aCons (eOp oSub (eOp oPow (eC (.int 10)) (eC (.int 12))) (eC (.int 1))) (aCons (eNeg (eOp oPow (eC (.int 10)) (eC (.int 12)))) aNil))))))))))))) aNil))))
@[irreducible] def m_L_number : DSp := runF [true] 0 b_L_number
def b_L_true_rules : DSt :=
  (sSeq (sSet 3 (eLst aNil))
    (sSeq (sFor (iRange1 (aCons (eVar 2) aNil)) (gN 4) (sSeq (sSet 5 (eLRg (rg1 (eBi cLen (aCons (eVar 1) aNil)))))
    (sSeq (sSet 6 (eCall m_L_pop 2 [true, true] (aCons (eVar 0) (aCons (eVar 5) aNil))))
    (sSeq (sSet 7 (eCall m_L_pick 2 [true, true] (aCons (eVar 0) (aCons (eVar 5) aNil))))
    (sSeq (sIf (tB (eOp oGt (eIx (eVar 1) (eVar 6)) (eIx (eVar 1) (eVar 7)))) (sPar 6 7 (aCons (eVar 7) (aCons (eVar 6) aNil))) sNil)
    (sSeq (sSet 8 (eCall m_L_pick 2 [true, false] (aCons (eVar 0) (aCons (eIf (tB (eOp oEq (eIx (eVar 1) (eVar 6)) (eIx (eVar 1) (eVar 7)))) (eLst (aCons (eC (.str "eq")) (aCons (eC (.str "le")) (aCons (eC (.str "le")) aNil)))) (eLst (aCons (eC (.str "lt")) (aCons (eC (.str "le")) (aCons (eC (.str "ne")) (aCons (eC (.str "le")) aNil)))))) aNil))))
    (sSeq (sIf (tAnd (tB (eOp oEq (eVar 8) (eC (.str "ne")))) (tB (eOp oEq (eCall m_L_draw 2 [true, false] (aCons (eVar 0) (aCons (eC (.int 2)) aNil))) (eC (.int 0))))) (sPar 6 7 (aCons (eVar 7) (aCons (eVar 6) aNil))) sNil)
    (sEx (eMut 3 mApp (aCons (eTup (aCons (eVar 6) (aCons (eVar 8) (aCons (eVar 7) aNil)))) aNil))))))))))
    (sRet [0, 1, 2] (eBi cTuple (aCons (eVar 3) aNil)))))
@[irreducible] def m_L_true_rules : DSp := runF [true, true, true] 6 b_L_true_rules
def b_L_ring_rules : DSt :=
  (sSeq (sSet 3 (eLst aNil))
    (sSeq (sFor (iRange1 (aCons (eBi cLen (aCons (eVar 1) aNil)) aNil)) (gN 4) (sSeq (sSet 5 (eIx (eVar 1) (eVar 4)))
    (sSeq (sSet 6 (eIx (eVar 1) (eOp oMod (eBi cInt (aCons (eOp oAdd (eVar 4) (eC (.int 1))) aNil)) (eBi cLen (aCons (eVar 1) aNil)))))
    (sSeq (sSet 7 (eCall m_L_pick 2 [true, false] (aCons (eVar 0) (aCons (eLst (aCons (eC (.str "le")) (aCons (eC (.str "le")) (aCons (eC (.str "lt")) (aCons (eC (.str "eq")) aNil))))) aNil))))
    (sSeq (sIf (tAnd (tB (eOp oEq (eVar 7) (eC (.str "eq")))) (tB (eOp oEq (eCall m_L_draw 2 [true, false] (aCons (eVar 0) (aCons (eC (.int 2)) aNil))) (eC (.int 0))))) (sPar 5 6 (aCons (eVar 6) (aCons (eVar 5) aNil))) sNil)
    (sEx (eMut 3 mApp (aCons (eTup (aCons (eVar 5) (aCons (eVar 7) (aCons (eVar 6) aNil)))) aNil))))))))
    (sRet [0, 1, 2] (eOp oAdd (eVar 3) (eLst (aCons (eTup (aCons (eIx (eVar 2) (eC (.int 0))) (aCons (eCall m_L_pick 2 [true, false] (aCons (eVar 0) (aCons (eLst (aCons (eC (.str "ne")) (aCons (eC (.str "lt")) aNil))) aNil))) (aCons (eIx (eVar 2) (eC (.int 1))) aNil)))) aNil))))))
@[irreducible] def m_L_ring_rules : DSp := runF [true, true, true] 5 b_L_ring_rules
def b_L_other_numbers : DSt :=
  (sSeq (sSet 3 (eLst (aCons (eSl (eVar 2) (pSome (eC (.int 1))) pNo) (aCons (eSl (eVar 2) pNo (pSome (eNeg (eC (.int 1))))) (aCons (eOp oAdd (eVar 2) (eSl (eVar 2) pNo (pSome (eC (.int 1))))) (aCons (eTup aNil) (aCons (eOp oAdd (eSl (eVar 2) (pSome (eC (.int 1))) pNo) (eSl (eVar 2) pNo (pSome (eC (.int 1))))) aNil)))))))
    (sSeq (sFor (iRange1 (aCons (eC (.int 6)) aNil)) (gN 4) (sSeq (sSet 5 (eCall m_L_draw 2 [true, true] (aCons (eVar 0) (aCons (eVar 1) aNil))))
    (sSeq (sSet 6 (eCall m_L_pick 2 [true, false] (aCons (eVar 0) (aCons (eLst (aCons (eOp oSub (eIx (eVar 2) (eVar 5)) (eC (.int 1))) (aCons (eOp oAdd (eIx (eVar 2) (eVar 5)) (eC (.int 1))) (aCons (eIx (eVar 2) (eCall m_L_draw 2 [true, true] (aCons (eVar 0) (aCons (eVar 1) aNil)))) (aCons (eOp oSub (eNeg (eOp oPow (eC (.int 10)) (eC (.int 12)))) (eC (.int 1))) aNil))))) aNil))))
    (sEx (eMut 3 mApp (aCons (eOp oAdd (eOp oAdd (eSl (eVar 2) pNo (pSome (eVar 5))) (eTup (aCons (eVar 6) aNil))) (eSl (eVar 2) (pSome (eOp oAdd (eVar 5) (eC (.int 1)))) pNo)) aNil))))))
    (sSeq (sSet 7 (eLc (iSlot 3) [8] (gN 8) tTrue (eFz (eTup (aCons (eC (.str "numbers")) (aCons (eVar 8) aNil))))))
    (sSeq (sSet 7 (eOp oAdd (eVar 7) (eLst (aCons (eTup (aCons (eC (.str "number")) (aCons (eVar 2) aNil))) (aCons (eTup (aCons (eC (.str "ring")) (aCons (eVar 2) aNil))) (aCons (eTup (aCons (eC (.str "")) (aCons (eVar 2) aNil))) aNil))))))
    (sRet [0, 1, 2] (eOp oAdd (eVar 7) (eLst (aCons (eTup (aCons (eC (.str "numbers")) aNil)) (aCons (eTup (aCons (eC (.str "numbers")) (aCons (eVar 2) (aCons (eVar 2) aNil)))) (aCons (eTup (aCons (eC (.str "ring")) (aCons (eVar 2) (aCons (eSl (eVar 2) pNo (pSome (eC (.int 2)))) aNil)))) (aCons (eTup aNil) aNil)))))))))))
@[irreducible] def m_L_other_numbers : DSp := runF [true, true, true] 6 b_L_other_numbers
def b_L_other_walks : DSt :=
  (sSeq (sSet 3 (eCall m_L_draw 2 [true, false] (aCons (eVar 0) (aCons (eBi cLen (aCons (eVar 2) aNil)) aNil))))
    (sSeq (sSet 4 (eOp oAdd (eC (.int 1)) (eCall m_L_draw 2 [true, false] (aCons (eVar 0) (aCons (eOp oSub (eBi cLen (aCons (eVar 2) aNil)) (eC (.int 2))) aNil)))))
    (sSeq (sSet 5 (eCall m_L_draw 2 [true, true] (aCons (eVar 0) (aCons (eVar 1) aNil))))
    (sSeq (sSet 6 (eLst (aCons (eOp oAdd (eOp oAdd (eSl (eVar 2) pNo (pSome (eVar 3))) (eTup (aCons (eVar 5) aNil))) (eSl (eVar 2) (pSome (eOp oAdd (eVar 3) (eC (.int 1)))) pNo)) (aCons (eOp oAdd (eSl (eVar 2) pNo (pSome (eVar 3))) (eSl (eVar 2) (pSome (eOp oAdd (eVar 3) (eC (.int 1)))) pNo)) (aCons (eOp oAdd (eOp oAdd (eSl (eVar 2) pNo (pSome (eVar 3))) (eTup (aCons (eVar 5) aNil))) (eSl (eVar 2) (pSome (eVar 3)) pNo)) aNil)))))
    (sSeq (sSet 6 (eOp oAdd (eVar 6) (eLst (aCons (eOp oAdd (eSl (eVar 2) pNo (pSome (eVar 4))) (eSl (eVar 2) (pSome (eOp oAdd (eVar 4) (eC (.int 1)))) pNo)) (aCons (eOp oAdd (eOp oAdd (eSl (eVar 2) pNo (pSome (eVar 4))) (eTup (aCons (eVar 5) aNil))) (eSl (eVar 2) (pSome (eOp oAdd (eVar 4) (eC (.int 1)))) pNo)) aNil)))))
    (sSeq (sSet 6 (eOp oAdd (eVar 6) (eLst (aCons (eOp oAdd (eSl (eVar 2) pNo (pSome (eVar 4))) (eSl (eVar 2) (pSome (eOp oSub (eVar 4) (eC (.int 1)))) pNo)) (aCons (eRev (eVar 2)) (aCons (eSl (eVar 2) (pSome (eC (.int 1))) pNo) (aCons (eSl (eVar 2) pNo (pSome (eNeg (eC (.int 1))))) (aCons (eTup aNil) (aCons (eSl (eVar 2) pNo (pSome (eC (.int 1)))) (aCons (eSl (eVar 2) pNo (pSome (eC (.int 2)))) aNil))))))))))
    (sRet [0, 1, 2] (eOp oAdd (eVar 6) (eLst (aCons (eOp oAdd (eVar 2) (eTup (aCons (eVar 5) aNil))) (aCons (eOp oAdd (eTup (aCons (eVar 5) aNil)) (eVar 2)) (aCons (eOp oAdd (eSl (eVar 2) pNo (pSome (eC (.int 1)))) (eSl (eVar 2) pNo (pSome (eC (.int 1))))) (aCons (eOp oAdd (eVar 2) (eTup (aCons (eVar 1) aNil))) (aCons (eOp oAdd (eSl (eVar 2) pNo (pSome (eNeg (eC (.int 1))))) (eTup (aCons (eNeg (eC (.int 1))) aNil))) (aCons (eOp oRep (eTup (aCons (eVar 5) aNil)) (eC (.int 3))) aNil)))))))))))))))
@[irreducible] def m_L_other_walks : DSp := runF [true, true, true] 4 b_L_other_walks
def b_L_other_pairs : DSt :=
  (sSeq (sSet 4 (eCall m_L_draw 2 [true, true] (aCons (eVar 0) (aCons (eVar 1) aNil))))
    (sSeq (sSet 5 (eLst (aCons (eTup (aCons (eIx (eVar 2) (eC (.int 1))) (aCons (eIx (eVar 2) (eC (.int 0))) aNil))) (aCons (eTup (aCons (eVar 4) (aCons (eIx (eVar 2) (eC (.int 1))) aNil))) (aCons (eTup (aCons (eIx (eVar 2) (eC (.int 0))) (aCons (eVar 4) aNil))) (aCons (eTup (aCons (eIx (eVar 2) (eC (.int 0))) (aCons (eIx (eVar 2) (eC (.int 0))) aNil))) (aCons (eTup (aCons (eIx (eVar 2) (eC (.int 1))) (aCons (eIx (eVar 2) (eC (.int 1))) aNil))) aNil)))))))
    (sSeq (sSet 5 (eOp oAdd (eOp oAdd (eVar 5) (eCall m_L_apart 1 [true] (aCons (eVar 3) aNil))) (eLc (iFz (eCall m_L_apart 1 [true] (aCons (eVar 3) aNil))) [6, 7] (gT 2 (gCs (gN 6) (gCs (gN 7) gNl))) tTrue (eFz (eTup (aCons (eVar 7) (aCons (eVar 6) aNil)))))))
    (sRet [0, 1, 2, 3] (eOp oAdd (eVar 5) (eLst (aCons (eSl (eVar 2) pNo (pSome (eC (.int 1)))) (aCons (eTup aNil) (aCons (eOp oAdd (eVar 2) (eTup (aCons (eVar 4) aNil))) (aCons (eTup (aCons (eIx (eVar 2) (eC (.int 0))) (aCons (eVar 1) aNil))) (aCons (eTup (aCons (eNeg (eC (.int 1))) (aCons (eIx (eVar 2) (eC (.int 1))) aNil))) aNil)))))))))))
@[irreducible] def m_L_other_pairs : DSp := runF [true, true, true, true] 4 b_L_other_pairs
def b_L_other_lists : DSt :=
  (sSeq (sSet 1 (eLst aNil))
    (sSeq (sFor (iRange1 (aCons (eBi cLen (aCons (eVar 0) aNil)) aNil)) (gN 2) (sSeq (sAsg (eFz (eIx (eVar 0) (eVar 2))) (gT 3 (gCs (gN 3) (gCs (gN 4) (gCs (gN 5) gNl)))))
    (sSeq (sSet 1 (eOp oAdd (eVar 1) (eLst (aCons (eOp oAdd (eSl (eVar 0) pNo (pSome (eVar 2))) (eSl (eVar 0) (pSome (eOp oAdd (eVar 2) (eC (.int 1)))) pNo)) (aCons (eOp oAdd (eOp oAdd (eSl (eVar 0) pNo (pSome (eVar 2))) (eTup (aCons (eTup (aCons (eVar 5) (aCons (eVar 4) (aCons (eVar 3) aNil)))) aNil))) (eSl (eVar 0) (pSome (eOp oAdd (eVar 2) (eC (.int 1)))) pNo)) aNil)))))
    (sFor (iFz (eLst (aCons (eC (.str "eq")) (aCons (eC (.str "ne")) (aCons (eC (.str "lt")) (aCons (eC (.str "le")) aNil)))))) (gN 6) (sEx (eMut 1 mApp (aCons (eOp oAdd (eOp oAdd (eSl (eVar 0) pNo (pSome (eVar 2))) (eTup (aCons (eTup (aCons (eVar 3) (aCons (eVar 6) (aCons (eVar 5) aNil)))) aNil))) (eSl (eVar 0) (pSome (eOp oAdd (eVar 2) (eC (.int 1)))) pNo)) aNil)))))))
    (sRet [0] (eVar 1))))
@[irreducible] def m_L_other_lists : DSp := runF [true] 6 b_L_other_lists
def b_L_numbers_lot : DSt :=
  (sSeq (sSet 1 (eOp oAdd (eC (.int 1)) (eCall m_L_draw 2 [true, false] (aCons (eVar 0) (aCons (eC (.int 7)) aNil)))))
    (sSeq (sSet 2 (eBi cTuple (aCons (eLc (iRange1 (aCons (eVar 1) aNil)) [3] (gN 3) tTrue (eFz (eCall m_L_number 1 [true] (aCons (eVar 0) aNil)))) aNil)))
    (sSeq (sSet 4 (eCall m_L_true_rules 3 [true, true, false] (aCons (eVar 0) (aCons (eVar 2) (aCons (eIf (tB (eOp oGt (eVar 1) (eC (.int 1)))) (eCall m_L_draw 2 [true, false] (aCons (eVar 0) (aCons (eC (.int 9)) aNil))) (eC (.int 0))) aNil)))))
    (sRet [0] (eTup (aCons (eVar 1) (aCons (eVar 4) (aCons (eLst (aCons (eTup (aCons (eC (.str "numbers")) (aCons (eVar 2) aNil))) aNil)) (aCons (eCall m_L_other_numbers 3 [true, true, true] (aCons (eVar 0) (aCons (eVar 1) (aCons (eVar 2) aNil)))) aNil)))))))))
@[irreducible] def m_L_numbers_lot : DSp := runF [true] 4 b_L_numbers_lot
def b_L_ring_lot : DSt :=
  (sSeq (sSet 1 (eOp oAdd (eC (.int 2)) (eCall m_L_draw 2 [true, false] (aCons (eVar 0) (aCons (eC (.int 7)) aNil)))))
    (sSeq (sSet 2 (eCall m_L_shuffled 2 [true, false] (aCons (eVar 0) (aCons (eLRg (rg1 (eVar 1))) aNil))))
    (sSeq (sSet 3 (eSl (eVar 2) pNo (pSome (eOp oAdd (eC (.int 2)) (eCall m_L_draw 2 [true, false] (aCons (eVar 0) (aCons (eOp oSub (eVar 1) (eC (.int 1))) aNil)))))))
    (sSeq (sSet 4 (eBi cList (aCons (eVar 3) aNil)))
    (sSeq (sSet 5 (eTup (aCons (eCall m_L_pop 2 [true, true] (aCons (eVar 0) (aCons (eVar 4) aNil))) (aCons (eCall m_L_pick 2 [true, true] (aCons (eVar 0) (aCons (eVar 4) aNil))) aNil))))
    (sSeq (sSet 6 (eOp oAdd (eCall m_L_ring_rules 3 [true, true, true] (aCons (eVar 0) (aCons (eVar 3) (aCons (eVar 5) aNil)))) (eBi cList (aCons (eCall m_L_drawn_rules 3 [true, true, false] (aCons (eVar 0) (aCons (eVar 1) (aCons (eCall m_L_draw 2 [true, false] (aCons (eVar 0) (aCons (eC (.int 4)) aNil))) aNil)))) aNil))))
    (sSeq (sSet 6 (eOp oAdd (eVar 6) (eLc (iFz (eSl (eSl (eVar 2) (pSome (eBi cLen (aCons (eVar 3) aNil))) pNo) pNo (pSome (eC (.int 1))))) [7] (gN 7) tTrue (eFz (eTup (aCons (eVar 7) (aCons (eC (.str "ne")) (aCons (eIx (eVar 3) (eC (.int 0))) aNil))))))))
    (sSeq (sSet 6 (eBi cTuple (aCons (eCall m_L_shuffled 2 [true, true] (aCons (eVar 0) (aCons (eVar 6) aNil))) aNil)))
    (sSeq (sSet 8 (eCall m_L_draw 2 [true, false] (aCons (eVar 0) (aCons (eBi cLen (aCons (eVar 3) aNil)) aNil))))
    (sSeq (sSet 9 (eBi cTuple (aCons (eOp oAdd (eSl (eVar 3) (pSome (eVar 8)) pNo) (eSl (eVar 3) pNo (pSome (eVar 8)))) aNil)))
    (sSeq (sSet 10 (eOp oAdd (eVar 9) (eSl (eVar 9) pNo (pSome (eC (.int 1))))))
    (sSeq (sSet 11 (eLst (aCons (eTup (aCons (eC (.str "ring")) (aCons (eVar 10) (aCons (eVar 5) aNil)))) (aCons (eTup (aCons (eC (.str "ring")) (aCons (eBi cTuple (aCons (eOp oAdd (eVar 3) (eSl (eVar 3) pNo (pSome (eC (.int 1))))) aNil)) (aCons (eVar 5) aNil)))) (aCons (eTup (aCons (eC (.str "ring")) (aCons (eOp oAdd (eVar 9) (eVar 10)) (aCons (eVar 5) aNil)))) aNil)))))
    (sSeq (sSet 12 (eLc (iFz (eCall m_L_other_walks 3 [true, true, true] (aCons (eVar 0) (aCons (eVar 1) (aCons (eVar 10) aNil))))) [13] (gN 13) tTrue (eFz (eTup (aCons (eC (.str "ring")) (aCons (eVar 13) (aCons (eVar 5) aNil)))))))
    (sSeq (sSet 12 (eOp oAdd (eVar 12) (eLc (iFz (eCall m_L_other_pairs 4 [true, true, true, true] (aCons (eVar 0) (aCons (eVar 1) (aCons (eVar 5) (aCons (eVar 6) aNil)))))) [13] (gN 13) tTrue (eFz (eTup (aCons (eC (.str "ring")) (aCons (eVar 10) (aCons (eVar 13) aNil))))))))
    (sSeq (sSet 12 (eOp oAdd (eVar 12) (eLst (aCons (eTup (aCons (eC (.str "numbers")) (aCons (eVar 10) (aCons (eVar 5) aNil)))) (aCons (eTup (aCons (eC (.str "rings")) (aCons (eVar 10) (aCons (eVar 5) aNil)))) (aCons (eTup (aCons (eC (.str "ring")) (aCons (eVar 5) (aCons (eVar 10) aNil)))) (aCons (eTup (aCons (eC (.str "numbers")) (aCons (eVar 10) aNil))) aNil)))))))
    (sRet [0] (eTup (aCons (eVar 1) (aCons (eVar 6) (aCons (eVar 11) (aCons (eOp oAdd (eVar 12) (eLst (aCons (eTup (aCons (eC (.str "ring")) (aCons (eVar 10) aNil))) (aCons (eTup (aCons (eC (.str "ring")) (aCons (eVar 10) (aCons (eVar 5) (aCons (eVar 5) aNil))))) (aCons (eTup (aCons (eC (.str "ring")) aNil)) aNil))))) aNil)))))))))))))))))))))
@[irreducible] def m_L_ring_lot : DSp := runF [true] 13 b_L_ring_lot
def b_law : DSt :=
  (sSeq (sSet 1 (eCall m_L_begin 1 [true] (aCons (eVar 0) aNil)))
    (sSeq (sSet 2 (eLst (aCons (eCall m_L_numbers_lot 1 [true] (aCons (eVar 1) aNil)) (aCons (eCall m_L_ring_lot 1 [true] (aCons (eVar 1) aNil)) aNil))))
    (sSeq (sFor (iSlot 2) (gT 4 (gCs (gN 3) (gCs (gN 4) (gCs (gN 5) (gCs (gN 6) gNl))))) (sSeq (sFor (iFz (eOp oAdd (eOp oAdd (eVar 5) (eVar 6)) (eVar 5))) (gN 7) (sIf (tNot (tTr (eCall m_L_is_answer 3 [true, true, true] (aCons (eVar 3) (aCons (eVar 4) (aCons (eVar 7) aNil)))))) (sRet [0, 2] (eC (.bool false))) sNil))
    (sSeq (sFor (iFz (eCall m_L_other_lists 1 [true] (aCons (eVar 4) aNil))) (gN 8) (sIf (tNot (tTr (eCall m_L_is_answer 3 [true, true, false] (aCons (eVar 3) (aCons (eVar 8) (aCons (eIx (eVar 5) (eC (.int 0))) aNil)))))) (sRet [0, 2] (eC (.bool false))) sNil))
    (sFor (iSlot 2) (gN 9) (sFor (iFz (eIx (eVar 9) (eC (.int 2)))) (gN 7) (sIf (tNot (tTr (eCall m_L_is_answer 3 [true, true, true] (aCons (eVar 3) (aCons (eVar 4) (aCons (eVar 7) aNil)))))) (sRet [0, 2] (eC (.bool false))) sNil))))))
    (sRet [0] (eC (.bool true))))))
@[irreducible] def m_law : DSp := runF [true] 9 b_law
end K11
end
section
set_option Elab.async false
set_option linter.all false
set_option maxRecDepth 100000
set_option maxHeartbeats 4000000
namespace K11
open PySem L2 PV
local macro_rules | `(tactic| walk_at "w") => `(tactic| (conv => whnf))
def holdsB : Op4 → Int → Int → Bool
  | .eq, a, b => decide (a = b)
  | .ne, a, b => !decide (a = b)
  | .lt, a, b => decide (a < b)
  | .le, a, b => decide (a ≤ b)
theorem dInt (a b : Int) : min (PyData.int a).depth (PyData.int b).depth ≤ 60 := by simp [depth_int]
theorem dStr (a b : Str) : min (PyData.str a).depth (PyData.str b).depth ≤ 60 := by simp [depth_str]
theorem holds_ok {op : Op4} {a b : Int} {Q : Ev → List Sl → Prop} (k : Q (.val (.bool (holdsB op a b))) [.fz (.int a), .fz (.str (opS op)), .fz (.int b)]) : m_holds [.fz (.int a), .fz (.str (opS op)), .fz (.int b)] Q := by
  unfold m_holds b_holds
  walk_at "w"
  refine oEq_i (decide (op = .eq)) (eqv_op op .eq) (dStr _ _) ?_
  cases op with
  | eq =>
    walk_at "w"
    exact oEq_i (decide (a = b)) (eqv_int a b) (dInt _ _) k
  | ne =>
    walk_at "w"
    refine oEq_i true (eqv_op .ne .ne) (dStr _ _) ?_
    walk_at "w"
    exact oNe_i (!decide (a = b)) (congrArg (fun b => !b) (eqv_int a b)) (dInt _ _) k
  | lt =>
    walk_at "w"
    refine oEq_i false (eqv_op .lt .ne) (dStr _ _) ?_
    walk_at "w"
    refine oEq_i true (eqv_op .lt .lt) (dStr _ _) ?_
    exact k
  | le =>
    walk_at "w"
    refine oEq_i false (eqv_op .le .ne) (dStr _ _) ?_
    walk_at "w"
    refine oEq_i false (eqv_op .le .lt) (dStr _ _) ?_
    exact k
theorem L_holds_ok {op : Op4} {a b : Int} {Q : Ev → List Sl → Prop} (k : Q (.val (.bool (holdsB op a b))) [.fz (.int a), .fz (.str (opS op)), .fz (.int b)]) : m_L_holds [.fz (.int a), .fz (.str (opS op)), .fz (.int b)] Q := by
  unfold m_L_holds b_L_holds
  walk_at "w"
  refine oEq_i (decide (op = .eq)) (eqv_op op .eq) (dStr _ _) ?_
  cases op with
  | eq =>
    walk_at "w"
    exact oEq_i (decide (a = b)) (eqv_int a b) (dInt _ _) k
  | ne =>
    walk_at "w"
    refine oEq_i true (eqv_op .ne .ne) (dStr _ _) ?_
    walk_at "w"
    exact oNe_i (!decide (a = b)) (congrArg (fun b => !b) (eqv_int a b)) (dInt _ _) k
  | lt =>
    walk_at "w"
    refine oEq_i false (eqv_op .lt .ne) (dStr _ _) ?_
    walk_at "w"
    refine br_i (fun h => ?_) (fun h => ?_)
    · have e : holdsB .lt a b = true := h
      rw [e] at k
      exact k
    · have e : holdsB .lt a b = false := h
      rw [e] at k
      walk_at "w"
      refine oEq_i false (eqv_op .lt .le) (dStr _ _) ?_
      exact k
  | le =>
    walk_at "w"
    refine oEq_i false (eqv_op .le .ne) (dStr _ _) ?_
    walk_at "w"
    refine br_i (fun h => ?_) (fun h => ?_)
    · have h : a < b := of_decide_eq_true h
      have e : holdsB .le a b = true := decide_eq_true (by omega)
      rw [e] at k
      exact k
    · have h : ¬ a < b := of_decide_eq_false h
      walk_at "w"
      refine oEq_i true (eqv_op .le .le) (dStr _ _) ?_
      walk_at "w"
      refine oEq_i (decide (a = b)) (eqv_int a b) (dInt _ _) ?_
      have e : holdsB .le a b = decide (a = b) := decide_eq_decide.mpr (by omega)
      rw [e] at k
      exact k
def apartOf (rs : List Rule) : List Edge := (rs.filter fun r => decide (r.op = .ne ∨ r.op = .lt)).map fun r => (r.x, r.y)
theorem mem_ruleD {rs : List Rule} {d : D} (h : d ∈ rs.map ruleD) : ∃ r ∈ rs, d = ruleD r := by
  obtain ⟨r, h1, h2⟩ := List.mem_map.mp h
  exact ⟨r, h1, h2.symm⟩
def ruleOf : D → Option Rule
  | .tuple [.int x, .str o, .int y] => some ⟨x.toNat, if o = opS .lt then .lt else if o = opS .le then .le else if o = opS .eq then .eq else .ne, y.toNat⟩
  | _ => none
def ruleG (d : D) : Rule := (ruleOf d).getD ⟨0, .ne, 0⟩
theorem ruleG_D (r : Rule) : ruleG (ruleD r) = r := by
  obtain ⟨x, o, y⟩ := r
  cases o <;> rfl
theorem filter_ruleD (p : Rule → Bool) (q : D → Bool) (rs : List Rule) (h : ∀ r ∈ rs, q (ruleD r) = p r) : (rs.map ruleD).filter q = (rs.filter p).map ruleD := by
  induction rs with
  | nil => rfl
  | cons r rs ih =>
    rw [List.map_cons, List.filter_cons, List.filter_cons, h r List.mem_cons_self, ih fun r hr => h r (List.mem_cons_of_mem _ hr)]
    cases p r <;> rfl
theorem apart_ok {rs : List Rule} (h : rs.length ≤ 1000000) {Q : Ev → List Sl → Prop} (k : Q (.fresh (.list ((apartOf rs).map pairD))) [.fz (.tuple (rs.map ruleD))]) : m_apart_pairs [.fz (.tuple (rs.map ruleD))] Q := by
  unfold m_apart_pairs b_apart_pairs
  walk_at "w"
  refine lcGo_fm (ds := [.fz (.tuple (rs.map ruleD)), .no, .no, .no]) (all := rs.map ruleD) (fun d => decide ((ruleG d).op = .ne ∨ (ruleG d).op = .lt)) (fun d => pairD ((ruleG d).x, (ruleG d).y)) (fun P p => p) (fun d hd A B hA hB => ?_) (fun _ h => h) (by simp; omega) ?_
  · obtain ⟨r, hr, rfl⟩ := mem_ruleD hd
    rw [ruleG_D] at hA hB
    obtain ⟨x, o, y⟩ := r
    walk_at "w"
    refine oEq_i (decide (o = .ne)) (eqv_op o .ne) (dStr _ _) ?_
    cases o with
    | ne => exact hA rfl _ rfl
    | lt =>
      walk_at "w"
      refine oEq_i true (eqv_op .lt .lt) (dStr _ _) ?_
      exact hA rfl _ rfl
    | le =>
      walk_at "w"
      refine oEq_i false (eqv_op .le .lt) (dStr _ _) ?_
      exact hB rfl _ rfl
    | eq =>
      walk_at "w"
      refine oEq_i false (eqv_op .eq .lt) (dStr _ _) ?_
      exact hB rfl _ rfl
  · have e : List.map (fun d => pairD ((ruleG d).x, (ruleG d).y)) (List.filter (fun d => decide ((ruleG d).op = .ne ∨ (ruleG d).op = .lt)) (rs.map ruleD)) = (apartOf rs).map pairD := by
      rw [filter_ruleD (fun r => decide (r.op = .ne ∨ r.op = .lt)) _ _ fun r _ => by rw [ruleG_D]]
      unfold apartOf
      rw [List.map_map, List.map_map]
      apply List.map_congr_left
      intro r _
      simp [ruleG_D]
    rw [e, List.nil_append]
    exact k
end K11
end
section
set_option Elab.async false
set_option linter.all false
set_option maxRecDepth 100000
set_option maxHeartbeats 4000000
namespace K11
open PySem L2 PV
local macro_rules | `(tactic| walk_at "w") => `(tactic| (conv => whnf))
theorem any_ops (o : Op4) : (([PyData.str "lt", PyData.str "ne"] : List D).any fun z => PyData.eqv z (.str (opS o))) = decide (o = .ne ∨ o = .lt) := by
  have h1 : PyData.eqv (.str "lt") (.str (opS o)) = decide (Op4.lt = o) := eqv_op .lt o
  have h2 : PyData.eqv (.str "ne") (.str (opS o)) = decide (Op4.ne = o) := eqv_op .ne o
  simp only [List.any_cons, List.any_nil, h1, h2]
  cases o <;> decide
theorem L_apart_ok {rs : List Rule} (h : rs.length ≤ 1000000) {Q : Ev → List Sl → Prop} (k : Q (.fresh (.list ((apartOf rs).map pairD))) [.fz (.tuple (rs.map ruleD))]) : m_L_apart [.fz (.tuple (rs.map ruleD))] Q := by
  unfold m_L_apart b_L_apart
  walk_at "w"
  refine lcGo_fm (ds := [.fz (.tuple (rs.map ruleD)), .no, .no, .no]) (all := rs.map ruleD) (fun d => decide ((ruleG d).op = .ne ∨ (ruleG d).op = .lt)) (fun d => pairD ((ruleG d).x, (ruleG d).y)) (fun P p => p) (fun d hd A B hA hB => ?_) (fun _ h => h) (by simp; omega) ?_
  · obtain ⟨r, hr, rfl⟩ := mem_ruleD hd
    rw [ruleG_D] at hA hB
    obtain ⟨x, o, y⟩ := r
    walk_at "w"
    refine oIn_i (decide (o = .ne ∨ o = .lt)) (.inr rfl) (any_ops o) (by simp [depth_str]) ?_
    refine br_i (fun h => ?_) (fun h => ?_)
    · exact hA h _ rfl
    · exact hB h _ rfl
  · have e : List.map (fun d => pairD ((ruleG d).x, (ruleG d).y)) (List.filter (fun d => decide ((ruleG d).op = .ne ∨ (ruleG d).op = .lt)) (rs.map ruleD)) = (apartOf rs).map pairD := by
      rw [filter_ruleD (fun r => decide (r.op = .ne ∨ r.op = .lt)) _ _ fun r _ => by rw [ruleG_D]]
      unfold apartOf
      rw [List.map_map, List.map_map]
      apply List.map_congr_left
      intro r _
      simp [ruleG_D]
    rw [e, List.nil_append]
    exact k
structure VR (n : Nat) (rs : List Rule) : Prop where
  len : rs.length ≤ 1000
  ok : ∀ r ∈ rs, r.x < n ∧ r.y < n ∧ r.x ≠ r.y
def meetsB (rs : List Rule) (ns : List Int) : Bool := rs.all fun r => holdsB r.op (ns.getD r.x 0) (ns.getD r.y 0)
theorem turn_holds {mH : DSp} {x y : Nat} {o : Op4} {a b : Int} {ns : List D} {s0 : Sl} (hH : ∀ {Q : Ev → List Sl → Prop}, Q (.val (.bool (holdsB o a b))) [.fz (.int a), .fz (.str (opS o)), .fz (.int b)] → mH [.fz (.int a), .fz (.str (opS o)), .fz (.int b)] Q)
    (gx : ns[x]? = some (.int a)) (gy : ns[y]? = some (.int b)) {Q : Ev → DS → Prop}
    (k : Q (.val (.bool (holdsB o a b))) [s0, .fz (.tuple ns), .fz (.int (x : Int)), .fz (.str (opS o)), .fz (.int (y : Int))]) :
    (eCall mH 3 [false, true, false] (aCons (eIx (eVar 1) (eVar 2)) (aCons (eVar 3) (aCons (eIx (eVar 1) (eVar 4)) aNil)))) [s0, .fz (.tuple ns), .fz (.int (x : Int)), .fz (.str (opS o)), .fz (.int (y : Int))] Q := by
  show atD ns (x : Int) _
  refine atD_nat gx ?_
  show atD ns (y : Int) _
  refine atD_nat gy ?_
  generalize PyData.int b = bd at *
  refine hH ?_
  exact k
theorem ns_get {ns : List Int} {x : Nat} (h : x < ns.length) : (ns.map PyData.int)[x]? = some (.int (ns.getD x 0)) := by
  rw [List.getElem?_map, List.getElem?_eq_getElem h]
  simp [List.getD, h]
theorem meets_core {n : Nat} {mH : DSp} (hH : ∀ {op : Op4} {a b : Int} {Q : Ev → List Sl → Prop}, Q (.val (.bool (holdsB op a b))) [.fz (.int a), .fz (.str (opS op)), .fz (.int b)] → mH [.fz (.int a), .fz (.str (opS op)), .fz (.int b)] Q)
    {rs : List Rule} (v : VR n rs) {ns : List Int} (hn : ns.length = n) {Q : Ev → List Sl → Prop} (k : Q (.val (.bool (meetsB rs ns))) [.fz (.tuple (rs.map ruleD)), .fz (.tuple (ns.map PyData.int))]) :
    runF [true, true] 3 (sRet [0, 1] (eBi cAll (aCons (eLc (iSlot 0) [2, 3, 4] (gT 3 (gCs (gN 2) (gCs (gN 3) (gCs (gN 4) gNl)))) tTrue (eFz (eCall mH 3 [false, true, false] (aCons (eIx (eVar 1) (eVar 2)) (aCons (eVar 3) (aCons (eIx (eVar 1) (eVar 4)) aNil)))))) aNil))) [.fz (.tuple (rs.map ruleD)), .fz (.tuple (ns.map PyData.int))] Q := by
  have hl := v.len
  let ds0 : DS := [.fz (.tuple (rs.map ruleD)), .fz (.tuple (ns.map PyData.int)), .no, .no, .no]
  have hf : ∀ r ∈ rs, ∀ N : D → DS → Prop, (∀ ds', rstD ds0 [2, 3, 4] ds' = ds0 → N (.bool (holdsB r.op (ns.getD r.x 0) (ns.getD r.y 0))) ds') →
      gT 3 (gCs (gN 2) (gCs (gN 3) (gCs (gN 4) gNl))) (ruleD r) (wipD ds0 [2, 3, 4]) fun ds1 => (eFz (eCall mH 3 [false, true, false] (aCons (eIx (eVar 1) (eVar 2)) (aCons (eVar 3) (aCons (eIx (eVar 1) (eVar 4)) aNil))))) ds1 N := by
    intro r hr N hN
    have hv := v.ok r hr
    have t := @turn_holds mH r.x r.y r.op (ns.getD r.x 0) (ns.getD r.y 0) (ns.map PyData.int) (.fz (.tuple (rs.map ruleD))) hH (ns_get (by omega)) (ns_get (by omega)) (fun e ds1 => frz e ds1 N) (hN _ rfl)
    exact t
  let f : D → D := fun d => .bool (holdsB (ruleG d).op (ns.getD (ruleG d).x 0) (ns.getD (ruleG d).y 0))
  have go : lcGo (guard none (rs.map ruleD)) [2, 3, 4] (gT 3 (gCs (gN 2) (gCs (gN 3) (gCs (gN 4) gNl)))) tTrue (eFz (eCall mH 3 [false, true, false] (aCons (eIx (eVar 1) (eVar 2)) (aCons (eVar 3) (aCons (eIx (eVar 1) (eVar 4)) aNil))))) (rs.map ruleD) [] ds0
      (fun acc ds => cAll [.list acc] fun ev => retv [0, 1] ev ds fun ev ds => retOk ev (Q ev (backA [.fz (.tuple (rs.map ruleD)), .fz (.tuple (ns.map PyData.int))] ds))) := by
    refine lcGo_map f (fun d hd N hN => ?_) (fun _ h => h) (by simp; omega) ?_
    · obtain ⟨r, hr, rfl⟩ := mem_ruleD hd
      refine hf r hr N ?_
      have : f (ruleD r) = .bool (holdsB r.op (ns.getD r.x 0) (ns.getD r.y 0)) := by show PyData.bool _ = _; rw [ruleG_D]
      rw [this] at hN
      exact hN
    · have e : (rs.map ruleD).map f = (rs.map ruleD).map fun x => PyData.bool ((fun d => holdsB (ruleG d).op (ns.getD (ruleG d).x 0) (ns.getD (ruleG d).y 0)) x) := rfl
      rw [List.nil_append, e]
      refine boolsOf_mapD ?_
      have e2 : (List.map (fun d => holdsB (ruleG d).op (ns.getD (ruleG d).x 0) (ns.getD (ruleG d).y 0)) (rs.map ruleD)).all (fun b => b) = meetsB rs ns := by
        unfold meetsB
        rw [List.map_map, List.all_map]
        congr 1
        funext r
        simp [ruleG_D]
      rw [e2]
      exact k
  exact go
theorem meets_ok {n : Nat} {rs : List Rule} (v : VR n rs) {ns : List Int} (hn : ns.length = n) {Q : Ev → List Sl → Prop} (k : Q (.val (.bool (meetsB rs ns))) [.fz (.tuple (rs.map ruleD)), .fz (.tuple (ns.map PyData.int))]) : m_meets [.fz (.tuple (rs.map ruleD)), .fz (.tuple (ns.map PyData.int))] Q := by
  unfold m_meets b_meets
  exact meets_core holds_ok v hn k
theorem L_meets_ok {n : Nat} {rs : List Rule} (v : VR n rs) {ns : List Int} (hn : ns.length = n) {Q : Ev → List Sl → Prop} (k : Q (.val (.bool (meetsB rs ns))) [.fz (.tuple (rs.map ruleD)), .fz (.tuple (ns.map PyData.int))]) : m_L_meets [.fz (.tuple (rs.map ruleD)), .fz (.tuple (ns.map PyData.int))] Q := by
  unfold m_L_meets b_L_meets
  exact meets_core L_holds_ok v hn k
end K11
end
section
set_option Elab.async false
set_option linter.all false
set_option maxRecDepth 100000
set_option maxHeartbeats 4000000
namespace K11
open PySem L2 PV
local macro_rules | `(tactic| walk_at "w") => `(tactic| (conv => whnf))
abbrev iD (l : List Int) : List D := l.map PyData.int
def inE (es : List Edge) (a b : Int) : Bool := es.any fun e => decide ((e.1 : Int) = a ∧ (e.2 : Int) = b)
theorem any_pair (es : List Edge) (a b : Int) : ((es.map pairD).any fun z => PyData.eqv z (.tuple [.int a, .int b])) = inE es a b := by
  rw [List.any_map]
  unfold inE
  congr 1
  funext e
  show PyData.eqv (.tuple ([(e.1 : Int), (e.2 : Int)].map PyData.int)) (.tuple ([a, b].map PyData.int)) = _
  rw [eqv_ints]
  exact decide_eq_decide.mpr (by simp)
theorem depthPairs (es : List Edge) : PyData.depthAll (es.map pairD) ≤ 60 := by
  induction es with
  | nil => simp [PyData.depthAll]
  | cons e es ih =>
    rw [List.map_cons, PyData.depthAll]
    have : (pairD e).depth ≤ 60 := by
      show (PyData.tuple ([(e.1 : Int), (e.2 : Int)].map PyData.int)).depth ≤ 60
      simp [PyData.depth, PyData.depthAll]
    exact Nat.max_le.mpr ⟨this, ih⟩
theorem inPair {es : List Edge} {a b : Int} {Q : Ev → Prop} (q : Q (.val (.bool (inE es a b)))) : oIn (.tuple [.int a, .int b]) (.list (es.map pairD)) Q :=
  oIn_i (inE es a b) (.inl rfl) (any_pair es a b) (Nat.le_trans (Nat.min_le_left _ _) (depthPairs es)) q
theorem notInPair {es : List Edge} {a b : Int} {Q : Ev → Prop} (q : Q (.val (.bool (!inE es a b)))) : oNotIn (.tuple [.int a, .int b]) (.list (es.map pairD)) Q :=
  oNotIn_i (!inE es a b) (.inl rfl) (congrArg (fun b => !b) (any_pair es a b)) (Nat.le_trans (Nat.min_le_left _ _) (depthPairs es)) q
theorem inWalk {w : List Int} {a : Int} {Q : Ev → Prop} (q : Q (.val (.bool (decide (a ∈ w))))) : oIn (.int a) (.tuple (iD w)) Q :=
  oIn_i (decide (a ∈ w)) (.inr rfl) (PV.any_ints w a) (by rw [depthAll_ints]; simp) q
theorem notInWalk {w : List Int} {a : Int} {Q : Ev → Prop} (q : Q (.val (.bool (!decide (a ∈ w))))) : oNotIn (.int a) (.tuple (iD w)) Q :=
  oNotIn_i (!decide (a ∈ w)) (.inr rfl) (congrArg (fun b => !b) (PV.any_ints w a)) (by rw [depthAll_ints]; simp) q
def prs : List Int → List (Int × Int)
  | a :: b :: r => (a, b) :: prs (b :: r)
  | _ => []
abbrev pI (p : Int × Int) : D := .tuple [.int p.1, .int p.2]
theorem cut_init (w : List D) : cutG w none (some (-1)) = w.dropLast := by
  unfold cutG
  have e1 : HT.sIx w.length 0 none = 0 := rfl
  have e2 : HT.sIx w.length w.length (some (-1)) = w.length - 1 := by
    show (if (-1 : Int) < 0 then ((-1 : Int) + (w.length : Int)).toNat else min (-1 : Int).toNat w.length) = _
    rw [if_pos (by decide)]; omega
  rw [e1, e2, List.drop_zero, Nat.sub_zero, List.dropLast_eq_take]
theorem cut_tail (w : List D) : cutG w (some 1) none = w.drop 1 := by
  unfold cutG
  have e1 : HT.sIx w.length 0 (some 1) = min 1 w.length := by
    show (if (1 : Int) < 0 then ((1 : Int) + (w.length : Int)).toNat else min (1 : Int).toNat w.length) = _
    rw [if_neg (by decide)]; rfl
  have e2 : HT.sIx w.length w.length none = w.length := rfl
  rw [e1, e2]
  cases w with
  | nil => rfl
  | cons a w =>
    rw [show min 1 (a :: w).length = 1 by simp]
    exact List.take_of_length_le (by simp)
theorem zip_prs : ∀ w : List Int, zipD (cutG (iD w) none (some (-1))) (cutG (iD w) (some 1) none) = (prs w).map pI := by
  intro w
  rw [cut_init, cut_tail]
  induction w with
  | nil => rfl
  | cons a w ih =>
    cases w with
    | nil => rfl
    | cons b r =>
      show zipD (PyData.int a :: (iD (b :: r)).dropLast) (iD (b :: r)) = _
      have : zipD (PyData.int a :: (iD (b :: r)).dropLast) (iD (b :: r)) = .tuple [.int a, .int b] :: zipD ((iD (b :: r)).dropLast) ((iD (b :: r)).drop 1) := by
        show zipD (PyData.int a :: (iD (b :: r)).dropLast) (PyData.int b :: iD r) = _
        rfl
      rw [this, ih]
      rfl
def stepsB (es : List Edge) (w : List Int) : Bool := (prs w).all fun p => inE es p.1 p.2
def ringB (rs : List Rule) (w p : List Int) : Bool :=
  decide (2 ≤ w.length) && (decide (w.head? = w.getLast?) && (decide (p.length = 2) && (stepsB (stepsOf rs) w &&
    (decide (p.getD 0 0 ∈ w) && (decide (p.getD 1 0 ∈ w) && (inE (apartOf rs) (p.getD 0 0) (p.getD 1 0) || inE (apartOf rs) (p.getD 1 0) (p.getD 0 0)))))))
theorem atD_m1 {xs : List D} {x : D} {Q : D → Prop} (h : xs.getLast? = some x) (q : Q x) : atD xs (-1) Q := by
  have h0 : xs ≠ [] := by intro e; subst e; cases h
  have hp := List.length_pos_iff.mpr h0
  rw [List.getLast?_eq_getElem?] at h
  have e : atI xs (-1) = some x := by
    unfold atI
    have : ixN xs.length (-1) = some (xs.length - 1) := by
      unfold ixN
      rw [if_neg (by decide)]
      split
      · congr 1; omega
      · omega
    rw [this]
    exact h
  unfold atD
  rw [e]
  exact q
end K11
end
section
set_option Elab.async false
set_option linter.all false
set_option maxRecDepth 100000
set_option maxHeartbeats 4000000
namespace K11
open PySem L2 PV
local macro_rules | `(tactic| walk_at "w") => `(tactic| (conv => whnf))
theorem jr_ends {w : List Int} {s0 s2 s3 s4 s5 s6 : Sl} {Q : Ev → DS → Prop} (hw : w ≠ []) (k : Q (.val (.bool (!decide (w.head? = w.getLast?)))) [s0, .fz (.tuple (iD w)), s2, s3, s4, s5, s6]) :
    (eOp oNe (eIx (eVar 1) (eC (.int 0))) (eIx (eVar 1) (eNeg (eC (.int 1))))) [s0, .fz (.tuple (iD w)), s2, s3, s4, s5, s6] Q := by
  obtain ⟨a, r, rfl⟩ := List.exists_cons_of_ne_nil hw
  obtain ⟨l, hl⟩ : ∃ l, (a :: r).getLast? = some l := ⟨_, List.getLast?_eq_some_getLast hw⟩
  have hl2 : (iD (a :: r)).getLast? = some (.int l) := by unfold iD; rw [List.getLast?_map, hl]; rfl
  have e : (!decide ((a :: r).head? = (a :: r).getLast?)) = !decide (a = l) := by
    rw [hl]; congr 1; rw [decide_eq_decide]; simp
  rw [e] at k
  show atD (iD (a :: r)) 0 _
  refine atD_i (x := .int a) (by omega) rfl ?_
  show atD (iD (a :: r)) (-1) _
  refine atD_m1 hl2 ?_
  walk_at "w"
  refine oNe_i (!decide (a = l)) (congrArg (fun b => !b) (eqv_int a l)) (dInt _ _) ?_
  exact k
theorem jr_2 {T : DSt} {E : DEn} {rs : List Rule} {w p : List Int} {s0 s3 s4 s5 s6 : Sl}
    (k1 : 2 ≤ w.length → w.head? = w.getLast? → p.length = 2 → T E [s0, .fz (.tuple (iD w)), .fz (.tuple (iD p)), s3, s4, s5, s6])
    (k2 : ringB rs w p = false → E.rt (.val (.bool false)) [s0, .fz (.tuple (iD w)), .fz (.tuple (iD p)), s3, s4, s5, s6]) :
    (sSeq (sIf (tOr (tB (eOp oLt (eBi cLen (aCons (eVar 1) aNil)) (eC (.int 2)))) (tOr (tB (eOp oNe (eIx (eVar 1) (eC (.int 0))) (eIx (eVar 1) (eNeg (eC (.int 1)))))) (tB (eOp oNe (eBi cLen (aCons (eVar 2) aNil)) (eC (.int 2)))))) (sRet [0, 1, 2] (eC (.bool false))) sNil) T) E [s0, .fz (.tuple (iD w)), .fz (.tuple (iD p)), s3, s4, s5, s6] := by
  have hE := fun (hw : w ≠ []) {Q : Ev → DS → Prop} => @jr_ends w s0 (.fz (.tuple (iD p))) s3 s4 s5 s6 Q hw
  generalize (eOp oNe (eIx (eVar 1) (eC (.int 0))) (eIx (eVar 1) (eNeg (eC (.int 1))))) = f at hE ⊢
  have lw : (iD w).length = w.length := List.length_map ..
  have lp : (iD p).length = p.length := List.length_map ..
  generalize iD w = W at *
  generalize iD p = P at *
  walk_at "w"
  refine br_i (fun h => ?_) (fun h => ?_)
  · have h : (W.length : Int) < 2 := of_decide_eq_true h
    refine k2 ?_
    unfold ringB
    rw [decide_eq_false (by omega)]; rfl
  · have h : ¬ (W.length : Int) < 2 := of_decide_eq_false h
    have h2 : 2 ≤ w.length := by omega
    walk_at "w"
    refine hE (by intro e; rw [e] at h2; simp at h2) ?_
    walk_at "w"
    refine br_i (fun h => ?_) (fun h => ?_)
    · refine k2 ?_
      unfold ringB
      have h : decide (w.head? = w.getLast?) = false := by simpa using h
      rw [h]; simp
    · have h3 : w.head? = w.getLast? := by simpa using h
      walk_at "w"
      refine oNe_i (!decide ((P.length : Int) = 2)) (congrArg (fun b => !b) (eqv_int _ _)) (dInt _ _) ?_
      refine br_i (fun h => ?_) (fun h => ?_)
      · refine k2 ?_
        have h : ¬ (P.length : Int) = 2 := by simpa using h
        unfold ringB
        rw [decide_eq_false (p := p.length = 2) (by omega)]; simp
      · have h : (P.length : Int) = 2 := by simpa using h
        exact k1 h2 h3 (by omega)
theorem jr_4 {T : DSt} {E : DEn} {rs : List Rule} {es : List Edge} {w p : List Int} {s0 s2 s4 s5 s6 : Sl} (hes : es = stepsOf rs)
    (k1 : ∀ s4 s5, stepsB (stepsOf rs) w = true → T E [s0, .fz (.tuple (iD w)), s2, .ow (.list (es.map pairD)), s4, s5, s6])
    (k2 : ∀ s4 s5, stepsB (stepsOf rs) w = false → E.rt (.val (.bool false)) [s0, .fz (.tuple (iD w)), s2, .ow (.list (es.map pairD)), s4, s5, s6]) :
    (sSeq (sFor (iZip (aCons (eSl (eVar 1) pNo (pSome (eNeg (eC (.int 1))))) (aCons (eSl (eVar 1) (pSome (eC (.int 1))) pNo) aNil))) (gT 2 (gCs (gN 4) (gCs (gN 5) gNl))) (sIf (tB (eOp oNotIn (eTup (aCons (eVar 4) (aCons (eVar 5) aNil))) (eVar 3))) (sRet [0, 1, 2] (eC (.bool false))) sNil)) T) E
      [s0, .fz (.tuple (iD w)), s2, .ow (.list (es.map pairD)), s4, s5, s6] := by
  have key : ∀ xs : List D, xs = (prs w).map pI → forGo (guard none xs) (gT 2 (gCs (gN 4) (gCs (gN 5) gNl))) (sIf (tB (eOp oNotIn (eTup (aCons (eVar 4) (aCons (eVar 5) aNil))) (eVar 3))) (sRet [0, 1, 2] (eC (.bool false))) sNil) xs { E with nx := T E } [s0, .fz (.tuple (iD w)), s2, .ow (.list (es.map pairD)), s4, s5, s6] := by
    rintro xs rfl
    have hN := @notInPair es
    generalize es.map pairD = EM at *
    generalize iD w = W at *
    refine forGo_inv (ds := [s0, .fz (.tuple W), s2, .ow (.list EM), s4, s5, s6])
      (fun pre post ds => ∃ (ps : List (Int × Int)) (s4 s5 : Sl), post = ps.map pI ∧ stepsB (stepsOf rs) w = (ps.all fun p => inE es p.1 p.2) ∧ ds = [s0, .fz (.tuple W), s2, .ow (.list EM), s4, s5, s6]) (fun {pre post ds P} _ p => p) ?_ ?_ (pre := []) ⟨prs w, s4, s5, rfl, by rw [hes]; rfl, rfl⟩
    · rintro pre x post ds N ⟨ps, s4, s5, hp, hs, rfl⟩ kN
      cases ps with
      | nil => simp at hp
      | cons q ps =>
        obtain ⟨a, b⟩ := q
        rw [List.map_cons] at hp
        injection hp with hp1 hp2
        subst hp1
        rw [List.all_cons] at hs
        have kN' : ∀ s4 s5, (inE es a b = true) → N [s0, .fz (.tuple W), s2, .ow (.list EM), s4, s5, s6] := fun s4 s5 h => kN _ ⟨ps, s4, s5, hp2, by rw [hs, h]; rfl, rfl⟩
        clear kN
        walk_at "w"
        refine hN ?_
        refine br_i (fun h => ?_) (fun h => ?_)
        · have h : inE es a b = false := by simpa using h
          refine k2 _ _ ?_
          rw [hs, h]; rfl
        · exact kN' _ _ (by simpa using h)
    · rintro pre ds ⟨ps, s4, s5, hp, hs, rfl⟩
      have : ps = [] := by cases ps with | nil => rfl | cons q ps => simp at hp
      subst this
      exact k1 _ _ hs
  have e := zip_prs w
  generalize iD w = W at *
  show forGo (guard none (zipD (cutG W none (some (-1))) (cutG W (some 1) none))) _ _ (zipD (cutG W none (some (-1))) (cutG W (some 1) none)) _ _
  exact key _ e
theorem jr_7 {E : DEn} {rs : List Rule} {w : List Int} {x y : Int} {s0 s2 s3 : Sl}
    (k : E.rt (.val (.bool (decide (x ∈ w) && (decide (y ∈ w) && (inE (apartOf rs) x y || inE (apartOf rs) y x))))) [s0, .fz (.tuple (iD w)), s2, s3, .fz (.int x), .fz (.int y), .ow (.list ((apartOf rs).map pairD))]) :
    (sRet [0, 1, 2] (eAnd (eOp oIn (eVar 4) (eVar 1)) (eAnd (eOp oIn (eVar 5) (eVar 1)) (eOr (eOp oIn (eTup (aCons (eVar 4) (aCons (eVar 5) aNil))) (eVar 6)) (eOp oIn (eTup (aCons (eVar 5) (aCons (eVar 4) aNil))) (eVar 6)))))) E
      [s0, .fz (.tuple (iD w)), s2, s3, .fz (.int x), .fz (.int y), .ow (.list ((apartOf rs).map pairD))] := by
  have hP := @inPair (apartOf rs)
  have hW := @inWalk w
  generalize (apartOf rs).map pairD = AM at *
  generalize iD w = W at *
  walk_at "w"
  refine hW ?_
  refine br_i (fun h1 => ?_) (fun h1 => ?_)
  · rw [h1] at k
    walk_at "w"
    refine hW ?_
    refine br_i (fun h2 => ?_) (fun h2 => ?_)
    · rw [h2] at k
      walk_at "w"
      refine hP ?_
      refine br_i (fun h3 => ?_) (fun h3 => ?_)
      · rw [h3] at k
        exact k
      · rw [h3] at k
        walk_at "w"
        refine hP ?_
        exact k
    · rw [h2] at k
      exact k
  · rw [h1] at k
    exact k
theorem jr_1 {T : DSt} {E : DEn} {a b : List D} {s0 s3 s4 s5 s6 : Sl} (k : T E [s0, .fz (.tuple a), .fz (.tuple b), s3, s4, s5, s6]) :
    (sSeq (sIf (tOr (tNot (tTr (eIsi "tuple" (eVar 1)))) (tNot (tTr (eIsi "tuple" (eVar 2))))) (sRet [0, 1, 2] (eC (.bool false))) sNil) T) E [s0, .fz (.tuple a), .fz (.tuple b), s3, s4, s5, s6] := k
theorem jr_3 {T : DSt} {E : DEn} {mS : DSp} {R F : D} {s1 s2 s3 s4 s5 s6 : Sl} (hS : ∀ {Q : Ev → List Sl → Prop}, Q (.fresh F) [.fz R] → mS [.fz R] Q) (k : T E [.fz R, s1, s2, .ow F, s4, s5, s6]) :
    (sSeq (sSet 3 (eCall mS 1 [true] (aCons (eVar 0) aNil))) T) E [.fz R, s1, s2, s3, s4, s5, s6] := by
  walk_at "w"
  refine hS ?_
  exact k
theorem jr_5 {T : DSt} {E : DEn} {a b : D} {s0 s1 s3 s4 s5 s6 : Sl} (k : T E [s0, s1, .fz (.tuple [a, b]), s3, .fz a, .fz b, s6]) :
    (sSeq (sAsg (eFz (eVar 2)) (gT 2 (gCs (gN 4) (gCs (gN 5) gNl)))) T) E [s0, s1, .fz (.tuple [a, b]), s3, s4, s5, s6] := k
theorem jr_6 {T : DSt} {E : DEn} {mS : DSp} {R F : D} {s1 s2 s3 s4 s5 s6 : Sl} (hS : ∀ {Q : Ev → List Sl → Prop}, Q (.fresh F) [.fz R] → mS [.fz R] Q) (k : T E [.fz R, s1, s2, s3, s4, s5, .ow F]) :
    (sSeq (sSet 6 (eCall mS 1 [true] (aCons (eVar 0) aNil))) T) E [.fz R, s1, s2, s3, s4, s5, s6] := by
  walk_at "w"
  refine hS ?_
  exact k
theorem judge_ring_ok {rs : List Rule} (hl : rs.length ≤ 1000) {w p : List Int} {Q : Ev → List Sl → Prop} (k : Q (.val (.bool (ringB rs w p))) [.fz (.tuple (rs.map ruleD)), .fz (.tuple (iD w)), .fz (.tuple (iD p))]) :
    m_judge_ring [.fz (.tuple (rs.map ruleD)), .fz (.tuple (iD w)), .fz (.tuple (iD p))] Q := by
  unfold m_judge_ring b_judge_ring
  have hS := fun {Q} => @steps_of_ok rs (by omega) Q
  have hA := fun {Q} => @apart_ok rs (by omega) Q
  refine jr_1 ?_
  refine jr_2 (rs := rs) (fun h1 h2 h3 => ?_) (fun h => ?_)
  · refine jr_3 hS ?_
    refine jr_4 (rs := rs) (p := p) rfl (fun s4 s5 hs => ?_) (fun s4 s5 hs => ?_)
    · obtain ⟨x, y, rfl⟩ : ∃ x y, p = [x, y] := by
        match p, h3 with
        | [x, y], _ => exact ⟨x, y, rfl⟩
      refine jr_5 ?_
      refine jr_6 hA ?_
      refine jr_7 (rs := rs) ?_
      have e : ringB rs w [x, y] = (decide (x ∈ w) && (decide (y ∈ w) && (inE (apartOf rs) x y || inE (apartOf rs) y x))) := by
        unfold ringB
        rw [decide_eq_true h1, decide_eq_true h2, hs]
        rfl
      rw [e] at k
      exact k
    · have e : ringB rs w p = false := by
        unfold ringB
        rw [hs]; simp
      rw [e] at k
      exact k
  · rw [h] at k
    exact k
end K11
end
section
set_option Elab.async false
set_option linter.all false
set_option maxRecDepth 100000
set_option maxHeartbeats 4000000
namespace K11
open PySem L2 PV
local macro_rules | `(tactic| walk_at "w") => `(tactic| (conv => whnf))
theorem inE_same {es fs : List Edge} (h : ∀ e, e ∈ es ↔ e ∈ fs) (a b : Int) : inE es a b = inE fs a b := by
  unfold inE
  rw [Bool.eq_iff_iff, List.any_eq_true, List.any_eq_true]
  exact ⟨fun ⟨e, h1, h2⟩ => ⟨e, (h e).mp h1, h2⟩, fun ⟨e, h1, h2⟩ => ⟨e, (h e).mpr h1, h2⟩⟩
theorem prs_len : ∀ w : List Int, (prs w).length = w.length - 1
  | [] => rfl
  | [_] => rfl
  | a :: b :: r => by
    have := prs_len (b :: r)
    simp only [prs, List.length_cons] at this ⊢
    omega
theorem prs_get : ∀ (w : List Int) (j : Nat), j + 1 < w.length → (prs w)[j]? = some (w.getD j 0, w.getD (j + 1) 0)
  | a :: b :: r, 0, _ => by simp [prs]
  | a :: b :: r, j + 1, h => by
    have := prs_get (b :: r) j (by simpa using h)
    simpa [prs] using this
  | [_], _, h => by simp at h
  | [], _, h => by simp at h
theorem lr_pair {W : List D} {j : Nat} {a b : D} {s0 s2 s3 s5 : Sl} {Q : Ev → DS → Prop} (g1 : W[j]? = some a) (g2 : W[j + 1]? = some b) (k : Q (.val (.tuple [a, b])) [s0, .fz (.tuple W), s2, s3, .fz (.int (j : Int)), s5]) :
    (eTup (aCons (eIx (eVar 1) (eVar 4)) (aCons (eIx (eVar 1) (eOp oAdd (eVar 4) (eC (.int 1)))) aNil))) [s0, .fz (.tuple W), s2, s3, .fz (.int (j : Int)), s5] Q := by
  have g2' : W[((j : Int) + 1).toNat]? = some b := by
    rw [show ((j : Int) + 1).toNat = j + 1 from by omega]; exact g2
  show atD W (j : Int) _
  refine atD_nat g1 ?_
  show atD W ((j : Int) + 1) _
  refine atD_i (by omega) g2' ?_
  exact k
theorem lr_1 {T : DSt} {E : DEn} {rs : List Rule} {w p : List Int} {s0 s3 s4 s5 : Sl}
    (k1 : 1 ≤ w.length → p.length = 2 → T E [s0, .fz (.tuple (iD w)), .fz (.tuple (iD p)), s3, s4, s5])
    (k2 : ringB rs w p = false → E.rt (.val (.bool false)) [s0, .fz (.tuple (iD w)), .fz (.tuple (iD p)), s3, s4, s5]) :
    (sSeq (sIf (tOr (tB (eOp oEq (eBi cLen (aCons (eVar 1) aNil)) (eC (.int 0)))) (tB (eOp oNe (eBi cLen (aCons (eVar 2) aNil)) (eC (.int 2))))) (sRet [0, 1, 2] (eC (.bool false))) sNil) T) E [s0, .fz (.tuple (iD w)), .fz (.tuple (iD p)), s3, s4, s5] := by
  have lw : (iD w).length = w.length := List.length_map ..
  have lp : (iD p).length = p.length := List.length_map ..
  generalize iD w = W at *
  generalize iD p = P at *
  walk_at "w"
  refine oEq_i (decide ((W.length : Int) = 0)) (eqv_int _ _) (dInt _ _) ?_
  refine br_i (fun h => ?_) (fun h => ?_)
  · have h : (W.length : Int) = 0 := of_decide_eq_true h
    refine k2 ?_
    unfold ringB
    rw [decide_eq_false (by omega)]; rfl
  · have h : ¬ (W.length : Int) = 0 := of_decide_eq_false h
    walk_at "w"
    refine oNe_i (!decide ((P.length : Int) = 2)) (congrArg (fun b => !b) (eqv_int _ _)) (dInt _ _) ?_
    refine br_i (fun h => ?_) (fun h => ?_)
    · refine k2 ?_
      have h : ¬ (P.length : Int) = 2 := by simpa using h
      unfold ringB
      rw [decide_eq_false (p := p.length = 2) (by omega)]; simp
    · have h : (P.length : Int) = 2 := by simpa using h
      exact k1 (by omega) (by omega)
theorem lr_3 {T : DSt} {E : DEn} {es : List Edge} {w : List Int} {s0 s2 s4 s5 : Sl} (hw : 1 ≤ w.length) (hw2 : w.length ≤ 1000)
    (k1 : ∀ s4, stepsB es w = true → T E [s0, .fz (.tuple (iD w)), s2, .ow (.list (es.map pairD)), s4, s5])
    (k2 : ∀ s4, stepsB es w = false → E.rt (.val (.bool false)) [s0, .fz (.tuple (iD w)), s2, .ow (.list (es.map pairD)), s4, s5]) :
    (sSeq (sFor (iRange1 (aCons (eOp oSub (eBi cLen (aCons (eVar 1) aNil)) (eC (.int 1))) aNil)) (gN 4) (sIf (tB (eOp oNotIn (eTup (aCons (eIx (eVar 1) (eVar 4)) (aCons (eIx (eVar 1) (eOp oAdd (eVar 4) (eC (.int 1)))) aNil))) (eVar 3))) (sRet [0, 1, 2] (eC (.bool false))) sNil)) T) E
      [s0, .fz (.tuple (iD w)), s2, .ow (.list (es.map pairD)), s4, s5] := by
  have hN := @notInPair es
  have lw : (iD w).length = w.length := List.length_map ..
  have hg : ∀ j, j < w.length → (iD w)[j]? = some (.int (w.getD j 0)) := fun j h => ns_get h
  have hP := fun {j : Nat} (h1 : j + 1 < w.length) {s4' s5' s2' s0' : Sl} {Q : Ev → DS → Prop} => @lr_pair (iD w) j _ _ s0' s2' s4' s5' Q (hg j (by omega)) (hg (j + 1) h1)
  generalize (eTup (aCons (eIx (eVar 1) (eVar 4)) (aCons (eIx (eVar 1) (eOp oAdd (eVar 4) (eC (.int 1)))) aNil))) = f at hP ⊢
  generalize es.map pairD = EM at *
  generalize iD w = W at *
  walk_at "w"
  refine ⟨by unfold bnd62; omega, ?_⟩
  refine forGo_rng (ds := [s0, .fz (.tuple W), s2, .ow (.list EM), s4, s5])
    (fun j ds => ∃ s4, stepsB es w = (((prs w).drop j).all fun p => inE es p.1 p.2) ∧ ds = [s0, .fz (.tuple W), s2, .ow (.list EM), s4, s5]) ⟨s4, rfl, rfl⟩ ?_ ?_
  · rintro j ds N hj ⟨s4, hs, rfl⟩ kN
    have hj : j + 1 < w.length := by omega
    have em : (0 : Int) + (j : Int) = (j : Int) := Int.zero_add _
    rw [em]
    have hget := prs_get w j hj
    have hjl : j < (prs w).length := by rw [prs_len]; omega
    rw [List.drop_eq_getElem_cons hjl, List.all_cons] at hs
    rw [List.getElem?_eq_getElem hjl] at hget
    injection hget with hget
    rw [hget] at hs
    have kN' : ∀ s4, (inE es (w.getD j 0) (w.getD (j + 1) 0) = true) → N [s0, .fz (.tuple W), s2, .ow (.list EM), s4, s5] := fun s4 h => kN _ ⟨s4, by rw [hs, h]; rfl, rfl⟩
    clear kN
    walk_at "w"
    refine hP hj ?_
    walk_at "w"
    refine hN ?_
    refine br_i (fun h => ?_) (fun h => ?_)
    · have h : inE es (w.getD j 0) (w.getD (j + 1) 0) = false := by simpa using h
      refine k2 _ ?_
      rw [hs, h]; rfl
    · exact kN' _ (by simpa using h)
  · rintro ds ⟨s4, hs, rfl⟩
    refine k1 _ ?_
    rw [hs, List.drop_eq_nil_of_le (by rw [prs_len]; omega)]
    rfl
end K11
end
section
set_option Elab.async false
set_option linter.all false
set_option maxRecDepth 100000
set_option maxHeartbeats 4000000
namespace K11
open PySem L2 PV
local macro_rules | `(tactic| walk_at "w") => `(tactic| (conv => whnf))
theorem lr_ends {w : List Int} {s0 s2 s3 s4 s5 : Sl} {Q : Ev → DS → Prop} (hw : w ≠ []) (k : Q (.val (.bool (!decide (w.head? = w.getLast?)))) [s0, .fz (.tuple (iD w)), s2, s3, s4, s5]) :
    (eOp oNe (eIx (eVar 1) (eC (.int 0))) (eIx (eVar 1) (eOp oSub (eBi cLen (aCons (eVar 1) aNil)) (eC (.int 1))))) [s0, .fz (.tuple (iD w)), s2, s3, s4, s5] Q := by
  obtain ⟨a, r, rfl⟩ := List.exists_cons_of_ne_nil hw
  obtain ⟨l, hl⟩ : ∃ l, (a :: r).getLast? = some l := ⟨_, List.getLast?_eq_some_getLast hw⟩
  have hl2 : (iD (a :: r))[(((iD (a :: r)).length : Int) - 1).toNat]? = some (.int l) := by
    rw [show (((iD (a :: r)).length : Int) - 1).toNat = (iD (a :: r)).length - 1 by omega, ← List.getLast?_eq_getElem?]
    unfold iD; rw [List.getLast?_map, hl]; rfl
  have e : (!decide ((a :: r).head? = (a :: r).getLast?)) = !decide (a = l) := by
    rw [hl]; congr 1; rw [decide_eq_decide]; simp
  rw [e] at k
  have h0 : (iD (a :: r))[(0 : Int).toNat]? = some (.int a) := rfl
  have hp : 0 < (iD (a :: r)).length := by simp
  generalize iD (a :: r) = W at *
  show atD W 0 _
  refine atD_i (by omega) h0 ?_
  show atD W ((W.length : Int) - 1) _
  refine atD_i (by omega) hl2 ?_
  refine oNe_i (!decide (a = l)) (congrArg (fun b => !b) (eqv_int a l)) (dInt _ _) ?_
  exact k
theorem lr_4 {T : DSt} {E : DEn} {w : List Int} {x y : Int} {s0 s3 s4 s5 : Sl} (hw : 1 ≤ w.length)
    (k1 : w.head? = w.getLast? → x ∈ w → y ∈ w → T E [s0, .fz (.tuple (iD w)), .fz (.tuple [.int x, .int y]), s3, s4, s5])
    (k2 : ¬ (w.head? = w.getLast? ∧ x ∈ w ∧ y ∈ w) → E.rt (.val (.bool false)) [s0, .fz (.tuple (iD w)), .fz (.tuple [.int x, .int y]), s3, s4, s5]) :
    (sSeq (sIf (tOr (tB (eOp oNe (eIx (eVar 1) (eC (.int 0))) (eIx (eVar 1) (eOp oSub (eBi cLen (aCons (eVar 1) aNil)) (eC (.int 1)))))) (tOr (tB (eOp oNotIn (eIx (eVar 2) (eC (.int 0))) (eVar 1))) (tB (eOp oNotIn (eIx (eVar 2) (eC (.int 1))) (eVar 1))))) (sRet [0, 1, 2] (eC (.bool false))) sNil) T) E
      [s0, .fz (.tuple (iD w)), .fz (.tuple [.int x, .int y]), s3, s4, s5] := by
  have hE := fun {Q : Ev → DS → Prop} => @lr_ends w s0 (.fz (.tuple [.int x, .int y])) s3 s4 s5 Q (by intro e; rw [e] at hw; simp at hw)
  generalize (eOp oNe (eIx (eVar 1) (eC (.int 0))) (eIx (eVar 1) (eOp oSub (eBi cLen (aCons (eVar 1) aNil)) (eC (.int 1))))) = f at hE ⊢
  have hW := @notInWalk w
  generalize iD w = W at *
  walk_at "w"
  refine hE ?_
  walk_at "w"
  refine br_i (fun h => ?_) (fun h => ?_)
  · refine k2 fun z => ?_
    have h : ¬ w.head? = w.getLast? := by simpa using h
    exact h z.1
  · have h1 : w.head? = w.getLast? := by simpa using h
    walk_at "w"
    refine hW ?_
    refine br_i (fun h => ?_) (fun h => ?_)
    · refine k2 fun z => ?_
      have h : x ∉ w := by simpa using h
      exact h z.2.1
    · have h2 : x ∈ w := by simpa using h
      walk_at "w"
      refine hW ?_
      refine br_i (fun h => ?_) (fun h => ?_)
      · refine k2 fun z => ?_
        have h : y ∉ w := by simpa using h
        exact h z.2.2
      · exact k1 h1 h2 (by simpa using h)
theorem lr_5 {T : DSt} {E : DEn} {mS : DSp} {R F : D} {s1 s2 s3 s4 s5 : Sl} (hS : ∀ {Q : Ev → List Sl → Prop}, Q (.fresh F) [.fz R] → mS [.fz R] Q) (k : T E [.fz R, s1, s2, s3, s4, .ow F]) :
    (sSeq (sSet 5 (eCall mS 1 [true] (aCons (eVar 0) aNil))) T) E [.fz R, s1, s2, s3, s4, s5] := by
  walk_at "w"
  refine hS ?_
  exact k
theorem lr_2 {T : DSt} {E : DEn} {mS : DSp} {R F : D} {s1 s2 s3 s4 s5 : Sl} (hS : ∀ {Q : Ev → List Sl → Prop}, Q (.fresh F) [.fz R] → mS [.fz R] Q) (k : T E [.fz R, s1, s2, .ow F, s4, s5]) :
    (sSeq (sSet 3 (eCall mS 1 [true] (aCons (eVar 0) aNil))) T) E [.fz R, s1, s2, s3, s4, s5] := by
  walk_at "w"
  refine hS ?_
  exact k
theorem lr_6 {E : DEn} {rs : List Rule} {x y : Int} {s0 s1 s3 s4 : Sl}
    (k : E.rt (.val (.bool (inE (apartOf rs) x y || inE (apartOf rs) y x))) [s0, s1, .fz (.tuple [.int x, .int y]), s3, s4, .ow (.list ((apartOf rs).map pairD))]) :
    (sRet [0, 1, 2] (eOr (eOp oIn (eTup (aCons (eIx (eVar 2) (eC (.int 0))) (aCons (eIx (eVar 2) (eC (.int 1))) aNil))) (eVar 5)) (eOp oIn (eTup (aCons (eIx (eVar 2) (eC (.int 1))) (aCons (eIx (eVar 2) (eC (.int 0))) aNil))) (eVar 5)))) E
      [s0, s1, .fz (.tuple [.int x, .int y]), s3, s4, .ow (.list ((apartOf rs).map pairD))] := by
  have hP := @inPair (apartOf rs)
  generalize (apartOf rs).map pairD = AM at *
  walk_at "w"
  refine hP ?_
  refine br_i (fun h3 => ?_) (fun h3 => ?_)
  · rw [h3] at k
    exact k
  · rw [h3] at k
    walk_at "w"
    refine hP ?_
    exact k
theorem apart_ne {n : Nat} {rs : List Rule} (v : VR n rs) (a : Int) : inE (apartOf rs) a a = false := by
  unfold inE
  rw [Bool.eq_false_iff]
  intro h
  obtain ⟨e, h1, h2⟩ := List.any_eq_true.mp h
  unfold apartOf at h1
  obtain ⟨r, h3, rfl⟩ := List.mem_map.mp h1
  have := v.ok r (List.mem_filter.mp h3).1
  have h2 := of_decide_eq_true h2
  simp only at h2
  omega
theorem L_is_ring_ok {n : Nat} {rs : List Rule} (v : VR n rs) {w p : List Int} (hw : w.length ≤ 1000) {Q : Ev → List Sl → Prop} (k : Q (.val (.bool (ringB rs w p))) [.fz (.tuple (rs.map ruleD)), .fz (.tuple (iD w)), .fz (.tuple (iD p))]) :
    m_L_is_ring [.fz (.tuple (rs.map ruleD)), .fz (.tuple (iD w)), .fz (.tuple (iD p))] Q := by
  unfold m_L_is_ring b_L_is_ring
  have hl := v.len
  have hS := fun {Q} => @L_steps_ok rs (by omega) Q
  have hA := fun {Q} => @L_apart_ok rs (by omega) Q
  have hsame : stepsB (stepsL rs) w = stepsB (stepsOf rs) w := by
    unfold stepsB
    congr 1
    funext p
    exact inE_same (fun e => steps_same.symm) _ _
  refine lr_1 (rs := rs) (fun h1 h3 => ?_) (fun h => ?_)
  · refine lr_2 hS ?_
    obtain ⟨x, y, rfl⟩ : ∃ x y, p = [x, y] := by
      match p, h3 with
      | [x, y], _ => exact ⟨x, y, rfl⟩
    refine lr_3 h1 hw (fun s4 hs => ?_) (fun s4 hs => ?_)
    · rw [hsame] at hs
      refine lr_4 h1 (fun e1 e2 e3 => ?_) (fun e => ?_)
      · refine lr_5 hA ?_
        refine lr_6 (rs := rs) ?_
        have e : ringB rs w [x, y] = (inE (apartOf rs) x y || inE (apartOf rs) y x) := by
          unfold ringB
          rw [decide_eq_true e1, hs]
          show (decide (2 ≤ w.length) && (true && (true && (true && (decide (x ∈ w) && (decide (y ∈ w) && _)))))) = _
          rw [decide_eq_true e2, decide_eq_true e3]
          by_cases h2 : 2 ≤ w.length
          · rw [decide_eq_true h2]; rfl
          · obtain ⟨a, rfl⟩ : ∃ a, w = [a] := List.length_eq_one_iff.mp (by omega)
            simp at e2 e3
            subst e2; subst e3
            rw [apart_ne v]; rfl
        rw [e] at k
        exact k
      · have e : ringB rs w [x, y] = false := by
          rw [Bool.eq_false_iff]
          intro z
          unfold ringB at z
          simp only [Bool.and_eq_true, decide_eq_true_eq] at z
          exact e ⟨z.2.1, z.2.2.2.2.1, z.2.2.2.2.2.1⟩
        rw [e] at k
        exact k
    · rw [hsame] at hs
      have e : ringB rs w [x, y] = false := by
        unfold ringB
        rw [hs]; simp
      rw [e] at k
      exact k
  · rw [h] at k
    exact k
end K11
end
section
set_option Elab.async false
set_option linter.all false
set_option maxRecDepth 100000
set_option maxHeartbeats 4000000
namespace K11
open PySem L2 PV
local macro_rules | `(tactic| walk_at "w") => `(tactic| (conv => whnf))
theorem is_whole_ok {i : Int} {Q : Ev → List Sl → Prop} (k : Q (.val (.bool true)) [.fz (.int i)]) : m_is_whole [.fz (.int i)] Q := by
  unfold m_is_whole b_is_whole
  exact k
theorem jm_all {mW : DSp} (hW : ∀ {i : Int} {Q : Ev → List Sl → Prop}, Q (.val (.bool true)) [.fz (.int i)] → mW [.fz (.int i)] Q) {l : List Int} (hl : l.length ≤ 1000) {s0 s1 s2 s4 : Sl} {Q : Ev → DS → Prop}
    (k : Q (.val (.bool true)) [s0, s1, s2, .fz (.tuple (iD l)), s4]) :
    (eBi cAll (aCons (eLc (iSlot 3) [4] (gN 4) tTrue (eFz (eCall mW 1 [true] (aCons (eVar 4) aNil)))) aNil)) [s0, s1, s2, .fz (.tuple (iD l)), s4] Q := by
  have go : lcGo (guard none (iD l)) [4] (gN 4) tTrue (eFz (eCall mW 1 [true] (aCons (eVar 4) aNil))) (iD l) [] [s0, s1, s2, .fz (.tuple (iD l)), s4]
      (fun acc ds => cAll [.list acc] fun ev => Q ev ds) := by
    refine lcGo_map (fun _ => .bool true) (fun d hd N hN => ?_) (fun _ h => h) (by simp; omega) ?_
    · obtain ⟨i, hi, rfl⟩ := List.mem_map.mp hd
      generalize iD l = L at *
      refine hW ?_
      exact hN _ rfl
    · rw [List.nil_append]
      refine boolsOf_mapD (f := fun _ => true) ?_
      have e : ((iD l).map fun _ => true).all (fun b => b) = true := by
        rw [List.all_map]; exact List.all_eq_true.mpr fun _ _ => rfl
      rw [e]
      exact k
  exact go
abbrev pD (s : Str) (ls : List (List Int)) : D := .tuple (.str s :: ls.map fun l => .tuple (iD l))
def takesB (n : Nat) (rs : List Rule) (s : Str) : List (List Int) → Bool
  | [l] => decide (s = "numbers") && (decide (l.length = n) && meetsB rs l)
  | [w, p] => decide (s = "ring") && ringB rs w p
  | _ => false
theorem eqv_s (s t : Str) : PyData.eqv (.str s) (.str t) = decide (s = t) := eqv_str s t
theorem jm_1 {T : DSt} {E : DEn} {n : Nat} {rs : List Rule} (v : VR n rs) {s : Str} {ls : List (List Int)} (hls : ∀ l ∈ ls, l.length ≤ 1000) {s3 s4 : Sl} {mW mM : DSp}
    (hW : ∀ {i : Int} {Q : Ev → List Sl → Prop}, Q (.val (.bool true)) [.fz (.int i)] → mW [.fz (.int i)] Q)
    (hM : ∀ {ns : List Int} {Q : Ev → List Sl → Prop}, ns.length = n → Q (.val (.bool (meetsB rs ns))) [.fz (.tuple (rs.map ruleD)), .fz (.tuple (iD ns))] → mM [.fz (.tuple (rs.map ruleD)), .fz (.tuple (iD ns))] Q)
    (k1 : (∀ l, ls = [l] → s ≠ "numbers") → T E [.fz (.int (n : Int)), .fz (.tuple (rs.map ruleD)), .fz (pD s ls), s3, s4])
    (k2 : ∀ s3 s4 l, ls = [l] → E.rt (.val (.bool (takesB n rs s ls))) [.fz (.int (n : Int)), .fz (.tuple (rs.map ruleD)), .fz (pD s ls), s3, s4]) :
    (sSeq (sIf (tAnd (tB (eOp oEq (eBi cLen (aCons (eVar 2) aNil)) (eC (.int 2)))) (tB (eOp oEq (eIx (eVar 2) (eC (.int 0))) (eC (.str "numbers"))))) (sSeq (sSet 3 (eIx (eVar 2) (eC (.int 1))))
    (sSeq (sIf (tOr (tNot (tTr (eIsi "tuple" (eVar 3)))) (tB (eOp oNe (eBi cLen (aCons (eVar 3) aNil)) (eVar 0)))) (sRet [0, 1, 2] (eC (.bool false))) sNil)
    (sRet [0, 1, 2] (eAnd (eBi cAll (aCons (eLc (iSlot 3) [4] (gN 4) tTrue (eFz (eCall mW 1 [true] (aCons (eVar 4) aNil)))) aNil)) (eCall mM 2 [true, true] (aCons (eVar 1) (aCons (eVar 3) aNil))))))) sNil) T) E
      [.fz (.int (n : Int)), .fz (.tuple (rs.map ruleD)), .fz (pD s ls), s3, s4] := by
  have hA := fun {l : List Int} (hl : l.length ≤ 1000) {s0 s1 s2 s4 : Sl} {Q : Ev → DS → Prop} => @jm_all mW hW l hl s0 s1 s2 s4 Q
  generalize (eBi cAll (aCons (eLc (iSlot 3) [4] (gN 4) tTrue (eFz (eCall mW 1 [true] (aCons (eVar 4) aNil)))) aNil)) = fA at hA ⊢
  generalize rs.map ruleD = R at *
  match ls, hls with
  | [], _ =>
    walk_at "w"
    refine oEq_i false (eqv_int 1 2) (dInt _ _) ?_
    exact k1 (fun l h => by simp at h)
  | a :: b :: r, _ =>
    walk_at "w"
    refine oEq_i false ((eqv_int _ 2).trans (decide_eq_false (by simp; omega))) (dInt _ _) ?_
    exact k1 (fun l h => by simp at h)
  | [l], hls =>
    have hl : l.length ≤ 1000 := hls l List.mem_cons_self
    have ep : pD s [l] = .tuple [.str s, .tuple (iD l)] := rfl
    rw [ep] at k1 k2 ⊢
    walk_at "w"
    refine oEq_i true (eqv_int 2 2) (dInt _ _) ?_
    walk_at "w"
    refine oEq_i (decide (s = "numbers")) (eqv_s s _) (dStr _ _) ?_
    refine br_i (fun h => ?_) (fun h => ?_)
    · have hs : s = "numbers" := of_decide_eq_true h
      have ll : (iD l).length = l.length := List.length_map ..
      have et : takesB n rs s [l] = (decide (l.length = n) && meetsB rs l) := by
        unfold takesB; rw [decide_eq_true hs]; rfl
      rw [et] at k2
      have hA' := fun {s0 s1 s2 s4 : Sl} {Q : Ev → DS → Prop} => @hA l hl s0 s1 s2 s4 Q
      have hM' := fun {Q : Ev → List Sl → Prop} => @hM l Q
      generalize iD l = L at *
      walk_at "w"
      refine oNe_i (!decide ((L.length : Int) = (n : Int))) (congrArg (fun b => !b) (eqv_int _ _)) (dInt _ _) ?_
      refine br_i (fun h => ?_) (fun h => ?_)
      · have h : ¬ (L.length : Int) = (n : Int) := by simpa using h
        have e : (decide (l.length = n) && meetsB rs l) = false := by rw [decide_eq_false (by omega)]; rfl
        rw [e] at k2
        exact k2 _ _ l rfl
      · have h : (L.length : Int) = (n : Int) := by simpa using h
        have e : (decide (l.length = n) && meetsB rs l) = meetsB rs l := by rw [decide_eq_true (by omega)]; rfl
        rw [e] at k2
        walk_at "w"
        refine hA' ?_
        walk_at "w"
        refine hM' (by omega) ?_
        exact k2 _ _ l rfl
    · have hs : ¬ s = "numbers" := of_decide_eq_false h
      exact k1 (fun l _ => hs)
end K11
end
section
set_option Elab.async false
set_option linter.all false
set_option maxRecDepth 100000
set_option maxHeartbeats 4000000
namespace K11
open PySem L2 PV
local macro_rules | `(tactic| walk_at "w") => `(tactic| (conv => whnf))
theorem jm_2 {E : DEn} {n : Nat} {rs : List Rule} {s : Str} {ls : List (List Int)} {s3 s4 : Sl} {mR : DSp} (hls : ∀ l ∈ ls, l.length ≤ 1000)
    (hR : ∀ {w p : List Int} {Q : Ev → List Sl → Prop}, w.length ≤ 1000 → Q (.val (.bool (ringB rs w p))) [.fz (.tuple (rs.map ruleD)), .fz (.tuple (iD w)), .fz (.tuple (iD p))] → mR [.fz (.tuple (rs.map ruleD)), .fz (.tuple (iD w)), .fz (.tuple (iD p))] Q)
    (h1 : ∀ l, ls = [l] → s ≠ "numbers")
    (k : E.rt (.val (.bool (takesB n rs s ls))) [.fz (.int (n : Int)), .fz (.tuple (rs.map ruleD)), .fz (pD s ls), s3, s4]) :
    (sSeq (sIf (tAnd (tB (eOp oEq (eBi cLen (aCons (eVar 2) aNil)) (eC (.int 3)))) (tB (eOp oEq (eIx (eVar 2) (eC (.int 0))) (eC (.str "ring"))))) (sRet [0, 1, 2] (eCall mR 3 [true, false, false] (aCons (eVar 1) (aCons (eIx (eVar 2) (eC (.int 1))) (aCons (eIx (eVar 2) (eC (.int 2))) aNil))))) sNil)
    (sRet [0, 1, 2] (eC (.bool false)))) E [.fz (.int (n : Int)), .fz (.tuple (rs.map ruleD)), .fz (pD s ls), s3, s4] := by
  generalize rs.map ruleD = R at *
  match ls, hls, h1 with
  | [], _, _ =>
    walk_at "w"
    refine oEq_i false (eqv_int 1 3) (dInt _ _) ?_
    exact k
  | [l], _, h1 =>
    have e : takesB n rs s [l] = false := by
      unfold takesB; rw [decide_eq_false (h1 l rfl)]; rfl
    rw [e] at k
    walk_at "w"
    refine oEq_i false (eqv_int 2 3) (dInt _ _) ?_
    exact k
  | a :: b :: c :: r, _, _ =>
    walk_at "w"
    refine oEq_i false ((eqv_int _ 3).trans (decide_eq_false (by simp; omega))) (dInt _ _) ?_
    exact k
  | [w, p], hls, _ =>
    have hw : w.length ≤ 1000 := hls w List.mem_cons_self
    have ep : pD s [w, p] = .tuple [.str s, .tuple (iD w), .tuple (iD p)] := rfl
    rw [ep] at k ⊢
    have et : takesB n rs s [w, p] = (decide (s = "ring") && ringB rs w p) := rfl
    rw [et] at k
    have hR' := fun {Q : Ev → List Sl → Prop} => @hR w p Q hw
    generalize iD w = W at *
    generalize iD p = P at *
    walk_at "w"
    refine oEq_i true (eqv_int 3 3) (dInt _ _) ?_
    walk_at "w"
    refine oEq_i (decide (s = "ring")) (eqv_s s _) (dStr _ _) ?_
    refine br_i (fun h => ?_) (fun h => ?_)
    · rw [h] at k
      walk_at "w"
      refine hR' ?_
      exact k
    · rw [h] at k
      exact k
theorem lt_2 {E : DEn} {n : Nat} {rs : List Rule} {s : Str} {ls : List (List Int)} {mR : DSp} (hls : ∀ l ∈ ls, l.length ≤ 1000)
    (hR : ∀ {w p : List Int} {Q : Ev → List Sl → Prop}, w.length ≤ 1000 → Q (.val (.bool (ringB rs w p))) [.fz (.tuple (rs.map ruleD)), .fz (.tuple (iD w)), .fz (.tuple (iD p))] → mR [.fz (.tuple (rs.map ruleD)), .fz (.tuple (iD w)), .fz (.tuple (iD p))] Q)
    (h1 : ∀ l, ls = [l] → s ≠ "numbers")
    (k : E.rt (.val (.bool (takesB n rs s ls))) [.fz (.int (n : Int)), .fz (.tuple (rs.map ruleD)), .fz (pD s ls)]) :
    (sSeq (sIf (tAnd (tB (eOp oEq (eBi cLen (aCons (eVar 2) aNil)) (eC (.int 3)))) (tB (eOp oEq (eIx (eVar 2) (eC (.int 0))) (eC (.str "ring"))))) (sRet [0, 1, 2] (eCall mR 3 [true, false, false] (aCons (eVar 1) (aCons (eIx (eVar 2) (eC (.int 1))) (aCons (eIx (eVar 2) (eC (.int 2))) aNil))))) sNil)
    (sRet [0, 1, 2] (eC (.bool false)))) E [.fz (.int (n : Int)), .fz (.tuple (rs.map ruleD)), .fz (pD s ls)] := by
  generalize rs.map ruleD = R at *
  match ls, hls, h1 with
  | [], _, _ =>
    walk_at "w"
    refine oEq_i false (eqv_int 1 3) (dInt _ _) ?_
    exact k
  | [l], _, h1 =>
    have e : takesB n rs s [l] = false := by
      unfold takesB; rw [decide_eq_false (h1 l rfl)]; rfl
    rw [e] at k
    walk_at "w"
    refine oEq_i false (eqv_int 2 3) (dInt _ _) ?_
    exact k
  | a :: b :: c :: r, _, _ =>
    walk_at "w"
    refine oEq_i false ((eqv_int _ 3).trans (decide_eq_false (by simp; omega))) (dInt _ _) ?_
    exact k
  | [w, p], hls, _ =>
    have hw : w.length ≤ 1000 := hls w List.mem_cons_self
    have ep : pD s [w, p] = .tuple [.str s, .tuple (iD w), .tuple (iD p)] := rfl
    rw [ep] at k ⊢
    have et : takesB n rs s [w, p] = (decide (s = "ring") && ringB rs w p) := rfl
    rw [et] at k
    have hR' := fun {Q : Ev → List Sl → Prop} => @hR w p Q hw
    generalize iD w = W at *
    generalize iD p = P at *
    walk_at "w"
    refine oEq_i true (eqv_int 3 3) (dInt _ _) ?_
    walk_at "w"
    refine oEq_i (decide (s = "ring")) (eqv_s s _) (dStr _ _) ?_
    refine br_i (fun h => ?_) (fun h => ?_)
    · rw [h] at k
      walk_at "w"
      refine hR' ?_
      exact k
    · rw [h] at k
      exact k
theorem lt_1 {T : DSt} {E : DEn} {n : Nat} {rs : List Rule} {s : Str} {ls : List (List Int)} {mM : DSp}
    (hM : ∀ {ns : List Int} {Q : Ev → List Sl → Prop}, ns.length = n → Q (.val (.bool (meetsB rs ns))) [.fz (.tuple (rs.map ruleD)), .fz (.tuple (iD ns))] → mM [.fz (.tuple (rs.map ruleD)), .fz (.tuple (iD ns))] Q)
    (k1 : (∀ l, ls = [l] → s ≠ "numbers") → T E [.fz (.int (n : Int)), .fz (.tuple (rs.map ruleD)), .fz (pD s ls)])
    (k2 : E.rt (.val (.bool (takesB n rs s ls))) [.fz (.int (n : Int)), .fz (.tuple (rs.map ruleD)), .fz (pD s ls)]) :
    (sSeq (sIf (tAnd (tB (eOp oEq (eBi cLen (aCons (eVar 2) aNil)) (eC (.int 2)))) (tB (eOp oEq (eIx (eVar 2) (eC (.int 0))) (eC (.str "numbers"))))) (sRet [0, 1, 2] (eAnd (eOp oEq (eBi cLen (aCons (eIx (eVar 2) (eC (.int 1))) aNil)) (eVar 0)) (eCall mM 2 [true, false] (aCons (eVar 1) (aCons (eIx (eVar 2) (eC (.int 1))) aNil))))) sNil) T) E
      [.fz (.int (n : Int)), .fz (.tuple (rs.map ruleD)), .fz (pD s ls)] := by
  generalize rs.map ruleD = R at *
  match ls with
  | [] =>
    walk_at "w"
    refine oEq_i false (eqv_int 1 2) (dInt _ _) ?_
    exact k1 (fun l h => by simp at h)
  | a :: b :: r =>
    walk_at "w"
    refine oEq_i false ((eqv_int _ 2).trans (decide_eq_false (by simp; omega))) (dInt _ _) ?_
    exact k1 (fun l h => by simp at h)
  | [l] =>
    have ep : pD s [l] = .tuple [.str s, .tuple (iD l)] := rfl
    rw [ep] at k1 k2 ⊢
    have ll : (iD l).length = l.length := List.length_map ..
    have et : takesB n rs s [l] = (decide (s = "numbers") && (decide (l.length = n) && meetsB rs l)) := rfl
    rw [et] at k2
    have hM' := fun {Q : Ev → List Sl → Prop} => @hM l Q
    generalize iD l = L at *
    walk_at "w"
    refine oEq_i true (eqv_int 2 2) (dInt _ _) ?_
    walk_at "w"
    refine oEq_i (decide (s = "numbers")) (eqv_s s _) (dStr _ _) ?_
    refine br_i (fun h => ?_) (fun h => ?_)
    · rw [h] at k2
      walk_at "w"
      refine oEq_i (decide ((L.length : Int) = (n : Int))) (eqv_int _ _) (dInt _ _) ?_
      refine br_i (fun h => ?_) (fun h => ?_)
      · have h : (L.length : Int) = (n : Int) := of_decide_eq_true h
        rw [decide_eq_true (p := l.length = n) (by omega)] at k2
        walk_at "w"
        refine hM' (by omega) ?_
        exact k2
      · have h : ¬ (L.length : Int) = (n : Int) := of_decide_eq_false h
        rw [decide_eq_false (p := l.length = n) (by omega)] at k2
        exact k2
    · have hs : ¬ s = "numbers" := of_decide_eq_false h
      exact k1 (fun l _ => hs)
theorem judge_meeting_ok {n : Nat} {rs : List Rule} (v : VR n rs) {s : Str} {ls : List (List Int)} (hls : ∀ l ∈ ls, l.length ≤ 1000) {Q : Ev → List Sl → Prop} (k : Q (.val (.bool (takesB n rs s ls))) [.fz (.int (n : Int)), .fz (.tuple (rs.map ruleD)), .fz (pD s ls)]) :
    m_judge_meeting [.fz (.int (n : Int)), .fz (.tuple (rs.map ruleD)), .fz (pD s ls)] Q := by
  unfold m_judge_meeting b_judge_meeting
  refine jm_1 v hls is_whole_ok (fun {ns Q} h q => meets_ok v h q) (fun h => ?_) (fun s3 s4 l e => k)
  exact jm_2 hls (fun {w p Q} hw q => judge_ring_ok v.len q) h k
theorem L_takes_ok {n : Nat} {rs : List Rule} (v : VR n rs) {s : Str} {ls : List (List Int)} (hls : ∀ l ∈ ls, l.length ≤ 1000) {Q : Ev → List Sl → Prop} (k : Q (.val (.bool (takesB n rs s ls))) [.fz (.int (n : Int)), .fz (.tuple (rs.map ruleD)), .fz (pD s ls)]) :
    m_L_takes [.fz (.int (n : Int)), .fz (.tuple (rs.map ruleD)), .fz (pD s ls)] Q := by
  unfold m_L_takes b_L_takes
  refine lt_1 (fun {ns Q} h q => L_meets_ok v h q) (fun h => ?_) k
  exact lt_2 hls (fun {w p Q} hw q => L_is_ring_ok v hw q) h k
end K11
end
section
set_option Elab.async false
set_option linter.all false
set_option maxRecDepth 100000
set_option maxHeartbeats 4000000
namespace K11
open PySem L2 PV
local macro_rules | `(tactic| walk_at "w") => `(tactic| (conv => whnf))
def PapOk (d : D) : Prop := d = .tuple [] ∨ ∃ (s : Str) (ls : List (List Int)), d = pD s ls ∧ ∀ l ∈ ls, l.length ≤ 1000
theorem judge_empty {n : Nat} {R : D} {Q : Ev → List Sl → Prop} (k : Q (.val (.bool false)) [.fz (.int (n : Int)), .fz R, .fz (.tuple [])]) : m_judge_meeting [.fz (.int (n : Int)), .fz R, .fz (.tuple [])] Q := by
  unfold m_judge_meeting b_judge_meeting
  generalize m_is_whole = m1
  generalize m_meets = m2
  generalize m_judge_ring = m3
  walk_at "w"
  refine oEq_i false (eqv_int 0 2) (dInt _ _) ?_
  walk_at "w"
  refine oEq_i false (eqv_int 0 3) (dInt _ _) ?_
  exact k
theorem takes_empty {n : Nat} {R : D} {Q : Ev → List Sl → Prop} (k : Q (.val (.bool false)) [.fz (.int (n : Int)), .fz R, .fz (.tuple [])]) : m_L_takes [.fz (.int (n : Int)), .fz R, .fz (.tuple [])] Q := by
  unfold m_L_takes b_L_takes
  generalize m_L_meets = m2
  generalize m_L_is_ring = m3
  walk_at "w"
  refine oEq_i false (eqv_int 0 2) (dInt _ _) ?_
  walk_at "w"
  refine oEq_i false (eqv_int 0 3) (dInt _ _) ?_
  exact k
theorem eqv_bool (a : Bool) : PyData.eqv (.bool a) (.bool a) = true := by cases a <;> decide
theorem is_answer_ok {n : Nat} {rs : List Rule} (v : VR n rs) {d : D} (hd : PapOk d) {Q : Ev → List Sl → Prop} (k : Q (.val (.bool true)) [.fz (.int (n : Int)), .fz (.tuple (rs.map ruleD)), .fz d]) :
    m_L_is_answer [.fz (.int (n : Int)), .fz (.tuple (rs.map ruleD)), .fz d] Q := by
  unfold m_L_is_answer b_L_is_answer
  have both : ∃ b : Bool, (∀ {Q : Ev → List Sl → Prop}, Q (.val (.bool b)) [.fz (.int (n : Int)), .fz (.tuple (rs.map ruleD)), .fz d] → m_judge_meeting [.fz (.int (n : Int)), .fz (.tuple (rs.map ruleD)), .fz d] Q) ∧
      (∀ {Q : Ev → List Sl → Prop}, Q (.val (.bool b)) [.fz (.int (n : Int)), .fz (.tuple (rs.map ruleD)), .fz d] → m_L_takes [.fz (.int (n : Int)), .fz (.tuple (rs.map ruleD)), .fz d] Q) := by
    rcases hd with rfl | ⟨s, ls, rfl, hls⟩
    · exact ⟨false, fun {Q} q => judge_empty q, fun {Q} q => takes_empty q⟩
    · exact ⟨takesB n rs s ls, fun {Q} q => judge_meeting_ok v hls q, fun {Q} q => L_takes_ok v hls q⟩
  obtain ⟨b, hJ, hT⟩ := both
  generalize m_judge_meeting = mJ at hJ ⊢
  generalize m_L_takes = mT at hT ⊢
  generalize PyData.tuple (rs.map ruleD) = R at *
  walk_at "w"
  refine hJ ?_
  walk_at "w"
  refine hT ?_
  walk_at "w"
  refine oEq_i true (eqv_bool b) (by simp [depth_bool]) ?_
  exact k
end K11
end
section
set_option Elab.async false
set_option linter.all false
set_option maxRecDepth 100000
set_option maxHeartbeats 4000000
namespace K11
open PySem L2 PV
local macro_rules | `(tactic| walk_at "w") => `(tactic| (conv => whnf))
/-- whole numbers, at most m -/
def ITn (m : Nat) (xs : List D) : Prop := ∃ l : List Int, xs = iD l ∧ l.length ≤ m
theorem ITn.len {m : Nat} {xs : List D} (h : ITn m xs) : xs.length ≤ m := by
  obtain ⟨l, rfl, h⟩ := h
  simpa using h
theorem ITn.cut {m : Nat} {xs : List D} (h : ITn m xs) (a b : Option Int) : ITn m (cutG xs a b) := by
  obtain ⟨l, rfl, h⟩ := h
  refine ⟨cutG l a b, ?_, ?_⟩
  · unfold cutG iD; rw [List.length_map, List.map_take, List.map_drop]
  · unfold cutG; rw [List.length_take, List.length_drop]; omega
theorem ITn.app {m k : Nat} {xs ys : List D} (h : ITn m xs) (h2 : ITn k ys) : ITn (m + k) (xs ++ ys) := by
  obtain ⟨l, rfl, h⟩ := h
  obtain ⟨l2, rfl, h2⟩ := h2
  exact ⟨l ++ l2, by simp, by simp; omega⟩
theorem ITn.one (i : Int) : ITn 1 [.int i] := ⟨[i], rfl, by simp⟩
theorem ITn.nil : ITn 0 [] := ⟨[], rfl, by simp⟩
theorem ITn.mono {m k : Nat} {xs : List D} (h : ITn m xs) (hk : m ≤ k) : ITn k xs := let ⟨l, e, h⟩ := h; ⟨l, e, by omega⟩
theorem ITn.rev {m : Nat} {xs : List D} (h : ITn m xs) : ITn m xs.reverse := by
  obtain ⟨l, rfl, h⟩ := h
  exact ⟨l.reverse, by simp, by simpa using h⟩
def Paps (ps : List D) : Prop := ∀ d ∈ ps, PapOk d
theorem pap0 : PapOk (.tuple []) := .inl rfl
theorem papS (s : Str) : PapOk (.tuple [.str s]) := .inr ⟨s, [], rfl, by simp⟩
theorem pap1 {s : Str} {xs : List D} (h : ITn 1000 xs) : PapOk (.tuple [.str s, .tuple xs]) := by
  obtain ⟨l, rfl, h⟩ := h
  exact .inr ⟨s, [l], rfl, by simpa using h⟩
theorem pap2 {s : Str} {xs ys : List D} (h : ITn 1000 xs) (h2 : ITn 1000 ys) : PapOk (.tuple [.str s, .tuple xs, .tuple ys]) := by
  obtain ⟨l, rfl, h⟩ := h
  obtain ⟨l2, rfl, h2⟩ := h2
  exact .inr ⟨s, [l, l2], rfl, by simp; omega⟩
theorem pap3 {s : Str} {xs ys zs : List D} (h : ITn 1000 xs) (h2 : ITn 1000 ys) (h3 : ITn 1000 zs) : PapOk (.tuple [.str s, .tuple xs, .tuple ys, .tuple zs]) := by
  obtain ⟨l, rfl, h⟩ := h
  obtain ⟨l2, rfl, h2⟩ := h2
  obtain ⟨l3, rfl, h3⟩ := h3
  exact .inr ⟨s, [l, l2, l3], rfl, by simp; omega⟩
def Lots (ps : List D) : Prop := ∀ d ∈ ps, ∃ xs, d = .tuple xs ∧ ITn 100 xs
theorem on_1 {T : DSt} {E : DEn} {L : List D} {s0 s1 s3 s4 s5 s6 s7 s8 : Sl} (h : ITn 20 L)
    (k : ∀ lots, Lots lots → lots.length = 5 → T E [s0, s1, .fz (.tuple L), .ow (.list lots), s4, s5, s6, s7, s8]) :
    (sSeq (sSet 3 (eLst (aCons (eSl (eVar 2) (pSome (eC (.int 1))) pNo) (aCons (eSl (eVar 2) pNo (pSome (eNeg (eC (.int 1))))) (aCons (eOp oAdd (eVar 2) (eSl (eVar 2) pNo (pSome (eC (.int 1))))) (aCons (eTup aNil) (aCons (eOp oAdd (eSl (eVar 2) (pSome (eC (.int 1))) pNo) (eSl (eVar 2) pNo (pSome (eC (.int 1))))) aNil))))))) T) E
      [s0, s1, .fz (.tuple L), s3, s4, s5, s6, s7, s8] := by
  have hl := h.len
  have l1 := (h.cut (some 1) none).len
  have l2 := (h.cut none (some 1)).len
  walk_at "w"
  refine ⟨by omega, ?_⟩
  walk_at "w"
  refine ⟨by omega, ?_⟩
  refine k _ ?_ rfl
  intro d hd
  simp only [List.mem_cons, List.not_mem_nil, or_false] at hd
  rcases hd with rfl | rfl | rfl | rfl | rfl
  · exact ⟨_, rfl, (h.cut _ _).mono (by omega)⟩
  · exact ⟨_, rfl, (h.cut _ _).mono (by omega)⟩
  · exact ⟨_, rfl, (h.app (h.cut _ _)).mono (by omega)⟩
  · exact ⟨_, rfl, ITn.nil.mono (by omega)⟩
  · exact ⟨_, rfl, ((h.cut _ _).app (h.cut _ _)).mono (by omega)⟩
end K11
end
section
set_option Elab.async false
set_option linter.all false
set_option maxRecDepth 100000
set_option maxHeartbeats 4000000
namespace K11
open PySem L2 PV
local macro_rules | `(tactic| walk_at "w") => `(tactic| (conv => whnf))
theorem cpow12 : CPow 10 12 := by unfold CPow; decide
theorem on_b1 {T : DSt} {E : DEn} {n : Nat} {l : List D} {s2 s3 s4 s5 s6 s7 s8 : Sl} (hl : Dr l) (h1 : 1 ≤ n) (h2 : n ≤ 1000)
    (k : ∀ (a : Nat) l', a < n → Dr l' → T E [.ow (.list l'), .fz (.int (n : Int)), s2, s3, s4, .fz (.int (a : Int)), s6, s7, s8]) :
    (sSeq (sSet 5 (eCall m_L_draw 2 [true, true] (aCons (eVar 0) (aCons (eVar 1) aNil)))) T) E [.ow (.list l), .fz (.int (n : Int)), s2, s3, s4, s5, s6, s7, s8] := by
  have hD := @draw_ok
  generalize m_L_draw = mD at hD ⊢
  walk_at "w"
  refine hD (by omega) (by omega) hl fun r l2 hr0 hr1 hl2 => ?_
  obtain ⟨a, rfl⟩ := Int.eq_ofNat_of_zero_le hr0
  exact k _ _ (by omega) hl2
theorem on_b2 {T : DSt} {E : DEn} {n a : Nat} {l : List D} {ns : List Int} {s3 s4 s6 s7 s8 : Sl} (hl : Dr l) (ha : a < n) (h2 : n ≤ 1000) (hn : ns.length = n)
    (k : ∀ (c : Int) l', Dr l' → T E [.ow (.list l'), .fz (.int (n : Int)), .fz (.tuple (iD ns)), s3, s4, .fz (.int (a : Int)), .fz (.int c), s7, s8]) :
    (sSeq (sSet 6 (eCall m_L_pick 2 [true, false] (aCons (eVar 0) (aCons (eLst (aCons (eOp oSub (eIx (eVar 2) (eVar 5)) (eC (.int 1))) (aCons (eOp oAdd (eIx (eVar 2) (eVar 5)) (eC (.int 1))) (aCons (eIx (eVar 2) (eCall m_L_draw 2 [true, true] (aCons (eVar 0) (aCons (eVar 1) aNil)))) (aCons (eOp oSub (eNeg (eOp oPow (eC (.int 10)) (eC (.int 12)))) (eC (.int 1))) aNil))))) aNil)))) T) E
      [.ow (.list l), .fz (.int (n : Int)), .fz (.tuple (iD ns)), s3, s4, .fz (.int (a : Int)), s6, s7, s8] := by
  have hD := @draw_ok
  have hK := @pick_ok
  generalize m_L_draw = mD at hD ⊢
  generalize m_L_pick = mK at hK ⊢
  have hg : ∀ j, j < n → (iD ns)[j]? = some (.int (ns.getD j 0)) := fun j h => ns_get (by omega)
  generalize iD ns = L at *
  show atD L (a : Int) _
  refine atD_nat (hg a ha) ?_
  show atD L (a : Int) _
  refine atD_nat (hg a ha) ?_
  refine hD (many := (n : Int)) (by omega) (by omega) hl fun r l2 hr0 hr1 hl2 => ?_
  obtain ⟨b, rfl⟩ := Int.eq_ofNat_of_zero_le hr0
  show atD L (b : Int) _
  refine atD_nat (hg b (by omega)) ?_
  walk_at "w"
  refine ⟨cpow12, ?_⟩
  refine hK hl2 (.fl _) (by simp) (by simp) fun x l3 hx hl3 => ?_
  obtain ⟨c, rfl⟩ : ∃ c, x = .int c := by
    simp only [List.mem_cons, List.not_mem_nil, or_false] at hx
    rcases hx with rfl | rfl | rfl | rfl <;> exact ⟨_, rfl⟩
  exact k _ _ hl3
end K11
end
section
set_option Elab.async false
set_option linter.all false
set_option maxRecDepth 100000
set_option maxHeartbeats 4000000
namespace K11
open PySem L2 PV
local macro_rules | `(tactic| walk_at "w") => `(tactic| (conv => whnf))
theorem on_b3 {E : DEn} {L lots : List D} {a : Nat} {c : Int} {s0 s1 s4 s7 s8 : Sl} (h : ITn 20 L) (hl : lots.length ≤ 100)
    (k : ∀ d, (∃ xs, d = .tuple xs ∧ ITn 100 xs) → E.nx [s0, s1, .fz (.tuple L), .ow (.list (lots ++ [d])), s4, .fz (.int (a : Int)), .fz (.int c), s7, s8]) :
    (sEx (eMut 3 mApp (aCons (eOp oAdd (eOp oAdd (eSl (eVar 2) pNo (pSome (eVar 5))) (eTup (aCons (eVar 6) aNil))) (eSl (eVar 2) (pSome (eOp oAdd (eVar 5) (eC (.int 1)))) pNo)) aNil))) E
      [s0, s1, .fz (.tuple L), .ow (.list lots), s4, .fz (.int (a : Int)), .fz (.int c), s7, s8] := by
  have i1 := h.cut none (some (a : Int))
  have i2 := h.cut (some ((a : Int) + 1)) none
  have l1 := i1.len
  have l2 := i2.len
  walk_at "w"
  refine ⟨by simp only [List.length_singleton]; omega, ?_⟩
  walk_at "w"
  refine ⟨by simp only [List.length_append, List.length_singleton]; omega, ?_⟩
  walk_at "w"
  refine ⟨by omega, ?_⟩
  exact k _ ⟨_, rfl, ((i1.app (ITn.one c)).app i2).mono (by omega)⟩
theorem on_2 {T : DSt} {E : DEn} {n : Nat} {l lots : List D} {ns : List Int} {s4 s5 s6 s7 s8 : Sl} (hl : Dr l) (h1 : 1 ≤ n) (h2 : n ≤ 20) (hn : ns.length = n) (hlo : Lots lots) (hlen : lots.length = 5)
    (k : ∀ lots l' s4 s5 s6, Dr l' → Lots lots → lots.length = 11 → T E [.ow (.list l'), .fz (.int (n : Int)), .fz (.tuple (iD ns)), .ow (.list lots), s4, s5, s6, s7, s8]) :
    (sSeq (sFor (iRange1 (aCons (eC (.int 6)) aNil)) (gN 4) (sSeq (sSet 5 (eCall m_L_draw 2 [true, true] (aCons (eVar 0) (aCons (eVar 1) aNil))))
    (sSeq (sSet 6 (eCall m_L_pick 2 [true, false] (aCons (eVar 0) (aCons (eLst (aCons (eOp oSub (eIx (eVar 2) (eVar 5)) (eC (.int 1))) (aCons (eOp oAdd (eIx (eVar 2) (eVar 5)) (eC (.int 1))) (aCons (eIx (eVar 2) (eCall m_L_draw 2 [true, true] (aCons (eVar 0) (aCons (eVar 1) aNil)))) (aCons (eOp oSub (eNeg (eOp oPow (eC (.int 10)) (eC (.int 12)))) (eC (.int 1))) aNil))))) aNil))))
    (sEx (eMut 3 mApp (aCons (eOp oAdd (eOp oAdd (eSl (eVar 2) pNo (pSome (eVar 5))) (eTup (aCons (eVar 6) aNil))) (eSl (eVar 2) (pSome (eOp oAdd (eVar 5) (eC (.int 1)))) pNo)) aNil)))))) T) E
      [.ow (.list l), .fz (.int (n : Int)), .fz (.tuple (iD ns)), .ow (.list lots), s4, s5, s6, s7, s8] := by
  refine ⟨by unfold bnd62; omega, ?_⟩
  refine forGo_rng (ds := [.ow (.list l), .fz (.int (n : Int)), .fz (.tuple (iD ns)), .ow (.list lots), s4, s5, s6, s7, s8])
    (fun j ds => ∃ lots l' s4 s5 s6, Dr l' ∧ Lots lots ∧ lots.length = 5 + j ∧ ds = [.ow (.list l'), .fz (.int (n : Int)), .fz (.tuple (iD ns)), .ow (.list lots), s4, s5, s6, s7, s8]) ⟨lots, l, s4, s5, s6, hl, hlo, hlen, rfl⟩ ?_ ?_
  · rintro j ds N hj ⟨lots, l', s4, s5, s6, hl', hlo, hlen, rfl⟩ hN
    have hj : j < 6 := hj
    refine on_b1 hl' h1 (by omega) fun a l2 ha hl2 => ?_
    refine on_b2 hl2 ha (by omega) hn fun c l3 hl3 => ?_
    refine on_b3 ⟨ns, rfl, by omega⟩ (by omega) fun d hd => ?_
    refine hN _ ⟨lots ++ [d], l3, _, _, _, hl3, fun e he => ?_, by simp; omega, rfl⟩
    rcases List.mem_append.mp he with h | h
    · exact hlo e h
    · simp at h; subst h; exact hd
  · rintro ds ⟨lots, l', s4, s5, s6, hl', hlo, hlen, rfl⟩
    exact k _ _ _ _ _ hl' hlo hlen
end K11
end
section
set_option Elab.async false
set_option linter.all false
set_option maxRecDepth 100000
set_option maxHeartbeats 4000000
namespace K11
open PySem L2 PV
local macro_rules | `(tactic| walk_at "w") => `(tactic| (conv => whnf))
theorem Paps.app {xs ys : List D} (h : Paps xs) (h2 : Paps ys) : Paps (xs ++ ys) := fun e he => by
  rcases List.mem_append.mp he with h1 | h1
  · exact h e h1
  · exact h2 e h1
theorem on_3 {T : DSt} {E : DEn} {lots : List D} {s0 s1 s2 s4 s5 s6 s7 s8 : Sl} (hlo : Lots lots) (hlen : lots.length ≤ 100)
    (k : ∀ ps, Paps ps → ps.length = lots.length → T E [s0, s1, s2, .ow (.list lots), s4, s5, s6, .ow (.list ps), s8]) :
    (sSeq (sSet 7 (eLc (iSlot 3) [8] (gN 8) tTrue (eFz (eTup (aCons (eC (.str "numbers")) (aCons (eVar 8) aNil)))))) T) E [s0, s1, s2, .ow (.list lots), s4, s5, s6, s7, s8] := by
  have go : lcGo (guard (some 3) lots) [8] (gN 8) tTrue (eFz (eTup (aCons (eC (.str "numbers")) (aCons (eVar 8) aNil)))) lots [] [s0, s1, s2, .ow (.list lots), s4, s5, s6, s7, s8] (fun acc ds => stv 7 (.fresh (.list acc)) ds (T E)) := by
    refine lcGo_fm (fun _ => true) (fun d => .tuple [.str "numbers", d]) (fun P p => ⟨rfl, p⟩) (fun d hd A B hA hB => ?_) (fun _ h => h) (by simp; omega) ?_
    · exact hA rfl _ rfl
    · rw [List.filter_eq_self.mpr (fun _ _ => rfl), List.nil_append]
      refine k _ (fun d hd => ?_) (by simp)
      obtain ⟨e, he, rfl⟩ := List.mem_map.mp hd
      obtain ⟨xs, rfl, h⟩ := hlo e he
      exact pap1 (h.mono (by omega))
  exact go
theorem on_4 {T : DSt} {E : DEn} {L ps : List D} {s0 s1 s3 s4 s5 s6 s8 : Sl} (h : ITn 20 L) (hp : Paps ps) (hlen : ps.length ≤ 100)
    (k : ∀ qs, Paps qs → qs.length = ps.length + 3 → T E [s0, s1, .fz (.tuple L), s3, s4, s5, s6, .ow (.list qs), s8]) :
    (sSeq (sSet 7 (eOp oAdd (eVar 7) (eLst (aCons (eTup (aCons (eC (.str "number")) (aCons (eVar 2) aNil))) (aCons (eTup (aCons (eC (.str "ring")) (aCons (eVar 2) aNil))) (aCons (eTup (aCons (eC (.str "")) (aCons (eVar 2) aNil))) aNil)))))) T) E [s0, s1, .fz (.tuple L), s3, s4, s5, s6, .ow (.list ps), s8] := by
  walk_at "w"
  refine ⟨by simp only [List.length_cons, List.length_nil]; omega, ?_⟩
  refine k _ (hp.app fun d hd => ?_) (by simp)
  simp only [List.mem_cons, List.not_mem_nil, or_false] at hd
  rcases hd with rfl | rfl | rfl
  · exact pap1 (h.mono (by omega))
  · exact pap1 (h.mono (by omega))
  · exact pap1 (h.mono (by omega))
theorem on_5 {E : DEn} {L ps : List D} {s0 s1 s3 s4 s5 s6 s8 : Sl} (h : ITn 20 L) (hp : Paps ps) (hlen : ps.length ≤ 100)
    (k : ∀ qs, Paps qs → qs.length = ps.length + 4 → E.rt (.fresh (.list qs)) [s0, s1, .fz (.tuple L), s3, s4, s5, s6, .ow (.list ps), s8]) :
    (sRet [0, 1, 2] (eOp oAdd (eVar 7) (eLst (aCons (eTup (aCons (eC (.str "numbers")) aNil)) (aCons (eTup (aCons (eC (.str "numbers")) (aCons (eVar 2) (aCons (eVar 2) aNil)))) (aCons (eTup (aCons (eC (.str "ring")) (aCons (eVar 2) (aCons (eSl (eVar 2) pNo (pSome (eC (.int 2)))) aNil)))) (aCons (eTup aNil) aNil))))))) E [s0, s1, .fz (.tuple L), s3, s4, s5, s6, .ow (.list ps), s8] := by
  walk_at "w"
  refine ⟨by simp only [List.length_cons, List.length_nil]; omega, ?_⟩
  refine k _ (hp.app fun d hd => ?_) (by simp)
  simp only [List.mem_cons, List.not_mem_nil, or_false] at hd
  rcases hd with rfl | rfl | rfl | rfl
  · exact papS _
  · exact pap2 (h.mono (by omega)) (h.mono (by omega))
  · exact pap2 (h.mono (by omega)) ((h.cut _ _).mono (by omega))
  · exact pap0
theorem run3 {a b c : D} {body : DSt} {Q : Ev → List Sl → Prop} (h : body { nx := fun ds => Q (.val .none) (backA [.ow a, .fz b, .fz c] ds), rt := fun ev ds => retOk ev (Q ev (backA [.ow a, .fz b, .fz c] ds)) } [.ow a, .fz b, .fz c, .no, .no, .no, .no, .no, .no]) : runF [true, true, true] 6 body [.ow a, .fz b, .fz c] Q := h
theorem other_numbers_ok {n : Nat} {l : List D} {ns : List Int} (hl : Dr l) (h1 : 1 ≤ n) (h2 : n ≤ 20) (hn : ns.length = n) {Q : Ev → List Sl → Prop}
    (k : ∀ ps l', Dr l' → Paps ps → ps.length ≤ 40 → Q (.fresh (.list ps)) [.ow (.list l'), .fz (.int (n : Int)), .fz (.tuple (iD ns))]) :
    m_L_other_numbers [.ow (.list l), .fz (.int (n : Int)), .fz (.tuple (iD ns))] Q := by
  unfold m_L_other_numbers b_L_other_numbers
  have hi : ITn 20 (iD ns) := ⟨ns, rfl, by omega⟩
  refine run3 ?_
  refine on_1 hi fun lots hlo hlen => ?_
  refine on_2 hl h1 h2 hn hlo hlen fun lots l2 s4 s5 s6 hl2 hlo hlen => ?_
  refine on_3 hlo (by omega) fun ps hp hpl => ?_
  refine on_4 hi hp (by omega) fun qs hq hql => ?_
  refine on_5 hi hq (by omega) fun rs hr hrl => ?_
  exact k _ _ hl2 hr (by omega)
end K11
end
section
set_option Elab.async false
set_option linter.all false
set_option maxRecDepth 100000
set_option maxHeartbeats 4000000
namespace K11
open PySem L2 PV
local macro_rules | `(tactic| walk_at "w") => `(tactic| (conv => whnf))
def RuleOk (n : Nat) (d : D) : Prop := ∃ r : Rule, d = ruleD r ∧ r.x < n ∧ r.y < n ∧ r.x ≠ r.y
def RsD (n : Nat) (xs : List D) : Prop := ∀ d ∈ xs, RuleOk n d
theorem RsD.vr {n : Nat} : ∀ {xs : List D}, RsD n xs → xs.length ≤ 1000 → ∃ rs : List Rule, xs = rs.map ruleD ∧ VR n rs := by
  have go : ∀ xs : List D, RsD n xs → ∃ rs : List Rule, xs = rs.map ruleD ∧ ∀ r ∈ rs, r.x < n ∧ r.y < n ∧ r.x ≠ r.y := by
    intro xs
    induction xs with
    | nil => intro _; exact ⟨[], rfl, by simp⟩
    | cons x xs ih =>
      intro h
      obtain ⟨r, e, h1⟩ := h x List.mem_cons_self
      obtain ⟨rs, e2, h2⟩ := ih fun d hd => h d (List.mem_cons_of_mem _ hd)
      refine ⟨r :: rs, by rw [e, e2]; rfl, fun q hq => ?_⟩
      rcases List.mem_cons.mp hq with rfl | hq
      · exact h1
      · exact h2 q hq
  intro xs h hl
  obtain ⟨rs, e, h2⟩ := go xs h
  exact ⟨rs, e, ⟨by rw [e] at hl; simpa using hl, h2⟩⟩
theorem RsD.snoc {n : Nat} {xs : List D} (h : RsD n xs) {d : D} (hd : RuleOk n d) : RsD n (xs ++ [d]) := fun e he => by
  rcases List.mem_append.mp he with h1 | h1
  · exact h e h1
  · simp at h1; subst h1; exact hd
theorem RsD.app {n : Nat} {xs ys : List D} (h : RsD n xs) (h2 : RsD n ys) : RsD n (xs ++ ys) := fun e he => by
  rcases List.mem_append.mp he with h1 | h1
  · exact h e h1
  · exact h2 e h1
theorem RsD.perm {n : Nat} {xs ys : List D} (h : RsD n xs) (p : ys.Perm xs) : RsD n ys := fun e he => h e (p.mem_iff.mp he)
theorem RsD.sub {n : Nat} {xs ys : List D} (h : RsD n xs) (p : ∀ d ∈ ys, d ∈ xs) : RsD n ys := fun e he => h e (p e he)
theorem natD_len (l : List Nat) : (natD l).length = l.length := by simp [natD]
theorem okRg_n {n : Nat} (h : n ≤ 1000000) : okRg 0 (n : Int) := by unfold okRg bnd62; omega
theorem rng0 (n : Nat) : rngD 0 ((n : Int) - 0).toNat = natD (List.range n) := by rw [Int.sub_zero, Int.toNat_natCast, rngD_nat]
theorem nd_inj {L : List Nat} (nd : L.Nodup) {i j : Nat} (hi : i < L.length) (hj : j < L.length) (h : L[i] = L[j]) : i = j := by
  have a := List.Nodup.idxOf_getElem nd i hi
  have b := List.Nodup.idxOf_getElem nd j hj
  rw [← a, h, b]
/-- one drawn out of distinct nodes, and one of the others -/
theorem pop2 {L : List Nat} (nd : L.Nodup) {j : Nat} (hj : j < (natD L).length) {d : D} (h : d ∈ (natD L).eraseIdx j) : ∃ x y : Nat, (natD L)[j] = .int (x : Int) ∧ d = .int (y : Int) ∧ x ∈ L ∧ y ∈ L ∧ x ≠ y := by
  obtain ⟨i, hi, hij, rfl⟩ := List.mem_eraseIdx_iff_getElem.mp h
  have e : ∀ (i : Nat) (h : i < (natD L).length), (natD L)[i] = .int ((L[i]'(by rw [natD_len] at h; exact h) : Nat) : Int) := fun i h => by simp [natD]
  rw [natD_len] at hi hj
  refine ⟨L[j], L[i], e j _, e i _, List.getElem_mem _, List.getElem_mem _, fun q => hij ?_⟩
  exact (nd_inj nd _ _ q).symm
theorem drawn_ok {n m : Nat} {l : List D} (hl : Dr l) (hn : n ≤ 100) (hm : m ≤ 100) (h : 0 < m → 2 ≤ n) {Q : Ev → List Sl → Prop}
    (k : ∀ xs l', Dr l' → RsD n xs → xs.length = m → Q (.val (.tuple xs)) [.ow (.list l'), .fz (.int (n : Int)), .fz (.int (m : Int))]) : m_L_drawn_rules [.ow (.list l), .fz (.int (n : Int)), .fz (.int (m : Int))] Q := by
  unfold m_L_drawn_rules b_L_drawn_rules
  have hP := @pop_ok
  have hK := @pick_ok
  generalize m_L_pop = mP at hP ⊢
  generalize m_L_pick = mK at hK ⊢
  walk_at "w"
  refine ⟨⟨by omega, by omega⟩, ?_⟩
  refine forGo_rng (ds := [.ow (.list l), .fz (.int (n : Int)), .fz (.int (m : Int)), .ow (.list []), .no, .no, .no])
    (fun j ds => ∃ l' xs s4 s5 s6, Dr l' ∧ RsD n xs ∧ xs.length = j ∧ ds = [.ow (.list l'), .fz (.int (n : Int)), .fz (.int (m : Int)), .ow (.list xs), s4, s5, s6]) ⟨l, [], .no, .no, .no, hl, fun d hd => by simp at hd, rfl, rfl⟩ ?_ ?_
  · rintro j ds N hj ⟨l', xs, s4, s5, s6, hl', hx, hxl, rfl⟩ hN
    rw [Int.toNat_natCast] at hj
    have h2 := h (by omega)
    walk_at "w"
    refine ⟨okRg_n (by omega), ?_⟩
    walk_at "w"
    rw [rng0]
    refine hP hl' (by intro e; have := congrArg List.length e; rw [natD_len] at this; simp at this; omega) (by rw [natD_len]; simp; omega) fun j2 hj2 l2 hl2 => ?_
    walk_at "w"
    refine hK hl2 (.fl _) (by simp) (by simp) fun op l3 hop hl3 => ?_
    walk_at "w"
    refine hK hl3 (.ow _) (by intro e; have := congrArg List.length e; rw [List.length_eraseIdx_of_lt hj2, natD_len] at this; simp at this; omega) (by rw [List.length_eraseIdx_of_lt hj2, natD_len]; simp; omega) fun y l4 hy hl4 => ?_
    obtain ⟨xn, yn, ex, rfl, hx1, hy1, hxy⟩ := pop2 List.nodup_range hj2 hy
    rw [List.mem_range] at hx1 hy1
    rw [ex]
    obtain ⟨o, rfl⟩ : ∃ o : Op4, op = .str (opS o) := by
      simp at hop
      rcases hop with rfl | rfl | rfl | rfl
      · exact ⟨.lt, rfl⟩
      · exact ⟨.le, rfl⟩
      · exact ⟨.ne, rfl⟩
      · exact ⟨.eq, rfl⟩
    walk_at "w"
    refine ⟨by omega, ?_⟩
    exact hN _ ⟨l4, _, _, _, _, hl4, hx.snoc ⟨⟨xn, o, yn⟩, rfl, hx1, hy1, hxy⟩, by simp; omega, rfl⟩
  · rintro ds ⟨l', xs, s4, s5, s6, hl', hx, hxl, rfl⟩
    rw [Int.toNat_natCast] at hxl
    walk_at "w"
    exact k _ _ hl' hx hxl
theorem number_ok {l : List D} (hl : Dr l) {Q : Ev → List Sl → Prop} (k : ∀ (i : Int) l', Dr l' → Q (.val (.int i)) [.ow (.list l')]) : m_L_number [.ow (.list l)] Q := by
  unfold m_L_number b_L_number
  have hK := @pick_ok
  generalize m_L_pick = mK at hK ⊢
  walk_at "w"
  refine ⟨cpow12, ?_⟩
  walk_at "w"
  refine ⟨cpow12, ?_⟩
  walk_at "w"
  refine ⟨cpow12, ?_⟩
  walk_at "w"
  refine hK hl (.fl _) (by simp) (by simp) fun x l3 hx hl3 => ?_
  obtain ⟨c, rfl⟩ : ∃ c, x = .int c := by
    simp only [List.mem_cons, List.not_mem_nil, or_false] at hx
    rcases hx with rfl | rfl | rfl | rfl | rfl | rfl | rfl | rfl | rfl | rfl | rfl | rfl <;> exact ⟨_, rfl⟩
  exact k _ _ hl3
end K11
end
section
set_option Elab.async false
set_option linter.all false
set_option maxRecDepth 100000
set_option maxHeartbeats 4000000
namespace K11
open PySem L2 PV
local macro_rules | `(tactic| walk_at "w") => `(tactic| (conv => whnf))
theorem tr_1 {T : DSt} {E : DEn} {n : Nat} {l L : List D} {s2 s3 s4 s5 s6 s7 s8 : Sl} (hl : Dr l) (hL : L.length = n) (h2 : 2 ≤ n) (h3 : n ≤ 100)
    (k : ∀ (x y : Nat) l' s5, x < n → y < n → x ≠ y → Dr l' → T E [.ow (.list l'), .fz (.tuple L), s2, s3, s4, s5, .fz (.int (x : Int)), .fz (.int (y : Int)), s8]) :
    (sSeq (sSet 5 (eLRg (rg1 (eBi cLen (aCons (eVar 1) aNil)))))
    (sSeq (sSet 6 (eCall m_L_pop 2 [true, true] (aCons (eVar 0) (aCons (eVar 5) aNil))))
    (sSeq (sSet 7 (eCall m_L_pick 2 [true, true] (aCons (eVar 0) (aCons (eVar 5) aNil)))) T))) E
      [.ow (.list l), .fz (.tuple L), s2, s3, s4, s5, s6, s7, s8] := by
  have hP := @pop_ok
  have hK := @pick_ok
  generalize m_L_pop = mP at hP ⊢
  generalize m_L_pick = mK at hK ⊢
  walk_at "w"
  rw [hL]
  refine ⟨okRg_n (by omega), ?_⟩
  walk_at "w"
  rw [rng0]
  refine hP hl (by intro e; have := congrArg List.length e; rw [natD_len] at this; simp at this; omega) (by rw [natD_len]; simp; omega) fun j2 hj2 l2 hl2 => ?_
  walk_at "w"
  refine hK hl2 (.ow _) (by intro e; have := congrArg List.length e; rw [List.length_eraseIdx_of_lt hj2, natD_len] at this; simp at this; omega) (by rw [List.length_eraseIdx_of_lt hj2, natD_len]; simp; omega) fun y l4 hy hl4 => ?_
  obtain ⟨xn, yn, ex, rfl, hx1, hy1, hxy⟩ := pop2 List.nodup_range hj2 hy
  rw [List.mem_range] at hx1 hy1
  rw [ex]
  exact k _ _ _ _ hx1 hy1 hxy hl4
theorem tr_2 {T : DSt} {E : DEn} {n x y : Nat} {ns : List Int} {s0 s2 s3 s4 s5 s8 : Sl} (hn : ns.length = n) (hx : x < n) (hy : y < n) (hxy : x ≠ y)
    (k : ∀ (x y : Nat), x < n → y < n → x ≠ y → T E [s0, .fz (.tuple (iD ns)), s2, s3, s4, s5, .fz (.int (x : Int)), .fz (.int (y : Int)), s8]) :
    (sSeq (sIf (tB (eOp oGt (eIx (eVar 1) (eVar 6)) (eIx (eVar 1) (eVar 7)))) (sPar 6 7 (aCons (eVar 7) (aCons (eVar 6) aNil))) sNil) T) E
      [s0, .fz (.tuple (iD ns)), s2, s3, s4, s5, .fz (.int (x : Int)), .fz (.int (y : Int)), s8] := by
  have hg : ∀ j, j < n → (iD ns)[j]? = some (.int (ns.getD j 0)) := fun j h => ns_get (by omega)
  generalize iD ns = L at *
  show atD L (x : Int) _
  refine atD_nat (hg x hx) ?_
  show atD L (y : Int) _
  refine atD_nat (hg y hy) ?_
  walk_at "w"
  refine br_i (fun h1 => ?_) (fun h1 => ?_)
  · exact k _ _ hy hx hxy.symm
  · exact k _ _ hx hy hxy
theorem pick_op {mK : DSp} {l : List D} (hK : ∀ {s : Sl} {xs : List D}, Row s xs → xs ≠ [] → xs.length ≤ 16777216 → ∀ {Q : Ev → List Sl → Prop},
    (∀ x l', x ∈ xs → Dr l' → Q (.val x) [.ow (.list l'), s]) → mK [.ow (.list l), s] Q) {os : List Op4} (h0 : os ≠ []) (h1 : os.length ≤ 100) {Q : Ev → List Sl → Prop}
    (k : ∀ (o : Op4) l', Dr l' → Q (.val (.str (opS o))) [.ow (.list l'), .fz (.list (os.map fun o => .str (opS o)))]) : mK [.ow (.list l), .fz (.list (os.map fun o => .str (opS o)))] Q := by
  refine hK (.fl _) (by simpa using h0) (by simp; omega) fun x l' hx hl' => ?_
  obtain ⟨o, _, rfl⟩ := List.mem_map.mp hx
  exact k o l' hl'
theorem tr_3 {T : DSt} {E : DEn} {n x y : Nat} {ns : List Int} {l : List D} {s2 s3 s4 s5 s8 : Sl} (hl : Dr l) (hn : ns.length = n) (hx : x < n) (hy : y < n)
    (k : ∀ (o : Op4) l', Dr l' → T E [.ow (.list l'), .fz (.tuple (iD ns)), s2, s3, s4, s5, .fz (.int (x : Int)), .fz (.int (y : Int)), .fz (.str (opS o))]) :
    (sSeq (sSet 8 (eCall m_L_pick 2 [true, false] (aCons (eVar 0) (aCons (eIf (tB (eOp oEq (eIx (eVar 1) (eVar 6)) (eIx (eVar 1) (eVar 7)))) (eLst (aCons (eC (.str "eq")) (aCons (eC (.str "le")) (aCons (eC (.str "le")) aNil)))) (eLst (aCons (eC (.str "lt")) (aCons (eC (.str "le")) (aCons (eC (.str "ne")) (aCons (eC (.str "le")) aNil)))))) aNil)))) T) E
      [.ow (.list l), .fz (.tuple (iD ns)), s2, s3, s4, s5, .fz (.int (x : Int)), .fz (.int (y : Int)), s8] := by
  have hK := fun {s : Sl} {xs : List D} => @pick_ok l hl s xs
  have hK := @pick_op m_L_pick l hK
  generalize m_L_pick = mK at hK ⊢
  have hg : ∀ j, j < n → (iD ns)[j]? = some (.int (ns.getD j 0)) := fun j h => ns_get (by omega)
  generalize iD ns = L at *
  show atD L (x : Int) _
  refine atD_nat (hg x hx) ?_
  show atD L (y : Int) _
  refine atD_nat (hg y hy) ?_
  refine oEq_i (decide (ns.getD x 0 = ns.getD y 0)) (eqv_int _ _) (dInt _ _) ?_
  refine br_i (fun h1 => ?_) (fun h1 => ?_)
  · refine hK (os := [.eq, .le, .le]) (by simp) (by simp) fun o l' hl' => ?_
    exact k o l' hl'
  · refine hK (os := [.lt, .le, .ne, .le]) (by simp) (by simp) fun o l' hl' => ?_
    exact k o l' hl'
theorem tr_4 {T : DSt} {E : DEn} {n x y : Nat} {o : Op4} {l : List D} {s1 s2 s3 s4 s5 : Sl} (hl : Dr l) (hx : x < n) (hy : y < n) (hxy : x ≠ y)
    (k : ∀ (x y : Nat) l', x < n → y < n → x ≠ y → Dr l' → T E [.ow (.list l'), s1, s2, s3, s4, s5, .fz (.int (x : Int)), .fz (.int (y : Int)), .fz (.str (opS o))]) :
    (sSeq (sIf (tAnd (tB (eOp oEq (eVar 8) (eC (.str "ne")))) (tB (eOp oEq (eCall m_L_draw 2 [true, false] (aCons (eVar 0) (aCons (eC (.int 2)) aNil))) (eC (.int 0))))) (sPar 6 7 (aCons (eVar 7) (aCons (eVar 6) aNil))) sNil) T) E
      [.ow (.list l), s1, s2, s3, s4, s5, .fz (.int (x : Int)), .fz (.int (y : Int)), .fz (.str (opS o))] := by
  have hD := @draw_ok
  generalize m_L_draw = mD at hD ⊢
  walk_at "w"
  refine oEq_i (decide (o = .ne)) (eqv_op o .ne) (dStr _ _) ?_
  refine br_i (fun h1 => ?_) (fun h1 => ?_)
  · refine hD (by decide) (by decide) hl fun r l4 hr0 hr1 hl4 => ?_
    walk_at "w"
    refine oEq_i (decide (r = 0)) (eqv_int r 0) (dInt _ _) ?_
    refine br_i (fun h2 => ?_) (fun h2 => ?_)
    · exact k _ _ _ hy hx hxy.symm hl4
    · exact k _ _ _ hx hy hxy hl4
  · exact k _ _ _ hx hy hxy hl
theorem tr_5 {E : DEn} {n x y : Nat} {o : Op4} {xs : List D} {s0 s1 s2 s4 s5 : Sl} (hxs : RsD n xs) (hlen : xs.length ≤ 1000) (hx : x < n) (hy : y < n) (hxy : x ≠ y)
    (k : ∀ d, RuleOk n d → E.nx [s0, s1, s2, .ow (.list (xs ++ [d])), s4, s5, .fz (.int (x : Int)), .fz (.int (y : Int)), .fz (.str (opS o))]) :
    (sEx (eMut 3 mApp (aCons (eTup (aCons (eVar 6) (aCons (eVar 8) (aCons (eVar 7) aNil)))) aNil))) E
      [s0, s1, s2, .ow (.list xs), s4, s5, .fz (.int (x : Int)), .fz (.int (y : Int)), .fz (.str (opS o))] := by
  walk_at "w"
  refine ⟨by omega, ?_⟩
  exact k _ ⟨⟨x, o, y⟩, rfl, hx, hy, hxy⟩
theorem tr_0 {T : DSt} {E : DEn} {s0 s1 s2 s3 s4 s5 s6 s7 s8 : Sl} (h : T E [s0, s1, s2, .ow (.list []), s4, s5, s6, s7, s8]) : (sSeq (sSet 3 (eLst aNil)) T) E [s0, s1, s2, s3, s4, s5, s6, s7, s8] := h
theorem tr_6 {T : DSt} {E : DEn} {n m : Nat} {l : List D} {ns : List Int} {s4 s5 s6 s7 s8 : Sl} (hl : Dr l) (hn : ns.length = n) (h1 : n ≤ 100) (hm : m ≤ 100) (h : 0 < m → 2 ≤ n)
    (k : ∀ xs l' s4 s5 s6 s7 s8, Dr l' → RsD n xs → xs.length = m → T E [.ow (.list l'), .fz (.tuple (iD ns)), .fz (.int (m : Int)), .ow (.list xs), s4, s5, s6, s7, s8]) :
    (sSeq (sFor (iRange1 (aCons (eVar 2) aNil)) (gN 4) (sSeq (sSet 5 (eLRg (rg1 (eBi cLen (aCons (eVar 1) aNil)))))
    (sSeq (sSet 6 (eCall m_L_pop 2 [true, true] (aCons (eVar 0) (aCons (eVar 5) aNil))))
    (sSeq (sSet 7 (eCall m_L_pick 2 [true, true] (aCons (eVar 0) (aCons (eVar 5) aNil))))
    (sSeq (sIf (tB (eOp oGt (eIx (eVar 1) (eVar 6)) (eIx (eVar 1) (eVar 7)))) (sPar 6 7 (aCons (eVar 7) (aCons (eVar 6) aNil))) sNil)
    (sSeq (sSet 8 (eCall m_L_pick 2 [true, false] (aCons (eVar 0) (aCons (eIf (tB (eOp oEq (eIx (eVar 1) (eVar 6)) (eIx (eVar 1) (eVar 7)))) (eLst (aCons (eC (.str "eq")) (aCons (eC (.str "le")) (aCons (eC (.str "le")) aNil)))) (eLst (aCons (eC (.str "lt")) (aCons (eC (.str "le")) (aCons (eC (.str "ne")) (aCons (eC (.str "le")) aNil)))))) aNil))))
    (sSeq (sIf (tAnd (tB (eOp oEq (eVar 8) (eC (.str "ne")))) (tB (eOp oEq (eCall m_L_draw 2 [true, false] (aCons (eVar 0) (aCons (eC (.int 2)) aNil))) (eC (.int 0))))) (sPar 6 7 (aCons (eVar 7) (aCons (eVar 6) aNil))) sNil)
    (sEx (eMut 3 mApp (aCons (eTup (aCons (eVar 6) (aCons (eVar 8) (aCons (eVar 7) aNil)))) aNil)))))))))) T) E
      [.ow (.list l), .fz (.tuple (iD ns)), .fz (.int (m : Int)), .ow (.list []), s4, s5, s6, s7, s8] := by
  refine ⟨by unfold bnd62; omega, ?_⟩
  refine forGo_rng (ds := [.ow (.list l), .fz (.tuple (iD ns)), .fz (.int (m : Int)), .ow (.list []), s4, s5, s6, s7, s8])
    (fun j ds => ∃ xs l' s4 s5 s6 s7 s8, Dr l' ∧ RsD n xs ∧ xs.length = j ∧ ds = [.ow (.list l'), .fz (.tuple (iD ns)), .fz (.int (m : Int)), .ow (.list xs), s4, s5, s6, s7, s8]) ⟨[], l, _, _, _, _, _, hl, fun d hd => by simp at hd, rfl, rfl⟩ ?_ ?_
  · rintro j ds N hj ⟨xs, l', s4, s5, s6, s7, s8, hl', hx, hxl, rfl⟩ hN
    rw [Int.toNat_natCast] at hj
    refine tr_1 hl' (by simpa using hn) (h (by omega)) h1 fun x y l2 s5 q1 q2 q3 hl2 => ?_
    refine tr_2 hn q1 q2 q3 fun x y q1 q2 q3 => ?_
    refine tr_3 hl2 hn q1 q2 fun o l3 hl3 => ?_
    refine tr_4 hl3 q1 q2 q3 fun x y l4 q1 q2 q3 hl4 => ?_
    refine tr_5 hx (by omega) q1 q2 q3 fun d hd => ?_
    exact hN _ ⟨xs ++ [d], l4, _, _, _, _, _, hl4, hx.snoc hd, by simp; omega, rfl⟩
  · rintro ds ⟨xs, l', s4, s5, s6, s7, s8, hl', hx, hxl, rfl⟩
    rw [Int.toNat_natCast] at hxl
    exact k _ _ _ _ _ _ _ hl' hx hxl
theorem true_rules_ok {n m : Nat} {l : List D} {ns : List Int} {i : Int} (hl : Dr l) (hn : ns.length = n) (hi : i = (m : Int)) (h1 : n ≤ 100) (hm : m ≤ 100) (h : 0 < m → 2 ≤ n) {Q : Ev → List Sl → Prop}
    (k : ∀ xs l', Dr l' → RsD n xs → xs.length = m → Q (.val (.tuple xs)) [.ow (.list l'), .fz (.tuple (iD ns)), .fz (.int i)]) : m_L_true_rules [.ow (.list l), .fz (.tuple (iD ns)), .fz (.int i)] Q := by
  subst hi
  unfold m_L_true_rules b_L_true_rules
  refine run3 ?_
  refine tr_0 ?_
  refine tr_6 hl hn h1 hm h fun xs l' s4 s5 s6 s7 s8 hl' hx hxl => ?_
  walk_at "w"
  exact k _ _ hl' hx hxl
end K11
end
section
set_option Elab.async false
set_option linter.all false
set_option maxRecDepth 100000
set_option maxHeartbeats 4000000
namespace K11
open PySem L2 PV
local macro_rules | `(tactic| walk_at "w") => `(tactic| (conv => whnf))
theorem natD_get {L : List Nat} {i : Nat} (h : i < L.length) : (natD L)[i]? = some (.int ((L.getD i 0 : Nat) : Int)) := by
  unfold natD
  rw [List.getElem?_map, List.getElem?_eq_getElem h]
  simp [List.getD, h]
theorem getD_mem {L : List Nat} {i : Nat} (h : i < L.length) : L.getD i 0 ∈ L := by
  rw [show L.getD i 0 = L[i] by simp [List.getD, h]]
  exact List.getElem_mem h
theorem getD_inj {L : List Nat} (nd : L.Nodup) {i j : Nat} (hi : i < L.length) (hj : j < L.length) (h : L.getD i 0 = L.getD j 0) : i = j := by
  rw [show L.getD i 0 = L[i] by simp [List.getD, hi], show L.getD j 0 = L[j] by simp [List.getD, hj]] at h
  exact nd_inj nd hi hj h
theorem rr_0 {T : DSt} {E : DEn} {s0 s1 s2 s3 s4 s5 s6 s7 : Sl} (h : T E [s0, s1, s2, .ow (.list []), s4, s5, s6, s7]) : (sSeq (sSet 3 (eLst aNil)) T) E [s0, s1, s2, s3, s4, s5, s6, s7] := h
theorem rr_1 {T : DSt} {E : DEn} {j : Nat} {L : List Nat} {s0 s2 s3 s5 s6 s7 : Sl} (nd : L.Nodup) (h2 : 2 ≤ L.length) (hj : j < L.length) (hb : L.length ≤ 1000)
    (k : ∀ (x y : Nat), x ∈ L → y ∈ L → x ≠ y → T E [s0, .ow (.list (natD L)), s2, s3, .fz (.int (0 + j)), .fz (.int (x : Int)), .fz (.int (y : Int)), s7]) :
    (sSeq (sSet 5 (eIx (eVar 1) (eVar 4)))
    (sSeq (sSet 6 (eIx (eVar 1) (eOp oMod (eBi cInt (aCons (eOp oAdd (eVar 4) (eC (.int 1))) aNil)) (eBi cLen (aCons (eVar 1) aNil))))) T)) E
      [s0, .ow (.list (natD L)), s2, s3, .fz (.int (0 + j)), s5, s6, s7] := by
  have g := fun i (h : i < L.length) => natD_get (L := L) h
  have hlen := natD_len L
  have m1 : (j + 1) % L.length < L.length := Nat.mod_lt _ (by omega)
  have hne : L.getD j 0 ≠ L.getD ((j + 1) % L.length) 0 := fun e => by
    have := getD_inj nd hj m1 e
    by_cases h : j + 1 < L.length
    · rw [Nat.mod_eq_of_lt h] at this; omega
    · rw [show j + 1 = L.length by omega, Nat.mod_self] at this; omega
  have emod : ((0 + (j : Int)) + 1) % (L.length : Int) = (((j + 1) % L.length : Nat) : Int) := by
    rw [Int.zero_add]; exact_mod_cast rfl
  have kk := k _ _ (getD_mem hj) (getD_mem m1) hne
  rw [Int.zero_add] at *
  generalize natD L = X at *
  show atD X (j : Int) _
  refine atD_nat (g j hj) ?_
  walk_at "w"
  rw [hlen]
  refine ⟨by omega, ?_⟩
  show atD X (((j : Int) + 1) % (L.length : Int)) _
  rw [emod]
  refine atD_nat (g _ m1) ?_
  exact kk
theorem rr_2 {T : DSt} {E : DEn} {l : List D} {s1 s2 s3 s4 s5 s6 s7 : Sl} (hl : Dr l)
    (k : ∀ (o : Op4) l', Dr l' → T E [.ow (.list l'), s1, s2, s3, s4, s5, s6, .fz (.str (opS o))]) :
    (sSeq (sSet 7 (eCall m_L_pick 2 [true, false] (aCons (eVar 0) (aCons (eLst (aCons (eC (.str "le")) (aCons (eC (.str "le")) (aCons (eC (.str "lt")) (aCons (eC (.str "eq")) aNil))))) aNil)))) T) E
      [.ow (.list l), s1, s2, s3, s4, s5, s6, s7] := by
  have hK := fun {s : Sl} {xs : List D} => @pick_ok l hl s xs
  have hK := @pick_op m_L_pick l hK
  generalize m_L_pick = mK at hK ⊢
  refine hK (os := [.le, .le, .lt, .eq]) (by simp) (by simp) fun o l' hl' => ?_
  exact k o l' hl'
theorem rr_3 {T : DSt} {E : DEn} {x y : Nat} {P : Nat → Prop} {o : Op4} {l : List D} {s1 s2 s3 s4 : Sl} (hl : Dr l) (hx : P x) (hy : P y) (hxy : x ≠ y)
    (k : ∀ (x y : Nat) l', P x → P y → x ≠ y → Dr l' → T E [.ow (.list l'), s1, s2, s3, s4, .fz (.int (x : Int)), .fz (.int (y : Int)), .fz (.str (opS o))]) :
    (sSeq (sIf (tAnd (tB (eOp oEq (eVar 7) (eC (.str "eq")))) (tB (eOp oEq (eCall m_L_draw 2 [true, false] (aCons (eVar 0) (aCons (eC (.int 2)) aNil))) (eC (.int 0))))) (sPar 5 6 (aCons (eVar 6) (aCons (eVar 5) aNil))) sNil) T) E
      [.ow (.list l), s1, s2, s3, s4, .fz (.int (x : Int)), .fz (.int (y : Int)), .fz (.str (opS o))] := by
  have hD := @draw_ok
  generalize m_L_draw = mD at hD ⊢
  walk_at "w"
  refine oEq_i (decide (o = .eq)) (eqv_op o .eq) (dStr _ _) ?_
  refine br_i (fun h1 => ?_) (fun h1 => ?_)
  · refine hD (by decide) (by decide) hl fun r l4 hr0 hr1 hl4 => ?_
    walk_at "w"
    refine oEq_i (decide (r = 0)) (eqv_int r 0) (dInt _ _) ?_
    refine br_i (fun h2 => ?_) (fun h2 => ?_)
    · exact k _ _ _ hy hx hxy.symm hl4
    · exact k _ _ _ hx hy hxy hl4
  · exact k _ _ _ hx hy hxy hl
theorem rr_4 {E : DEn} {n x y : Nat} {o : Op4} {xs : List D} {s0 s1 s2 s4 : Sl} (hxs : RsD n xs) (hlen : xs.length ≤ 1000) (hx : x < n) (hy : y < n) (hxy : x ≠ y)
    (k : ∀ d, RuleOk n d → E.nx [s0, s1, s2, .ow (.list (xs ++ [d])), s4, .fz (.int (x : Int)), .fz (.int (y : Int)), .fz (.str (opS o))]) :
    (sEx (eMut 3 mApp (aCons (eTup (aCons (eVar 5) (aCons (eVar 7) (aCons (eVar 6) aNil)))) aNil))) E
      [s0, s1, s2, .ow (.list xs), s4, .fz (.int (x : Int)), .fz (.int (y : Int)), .fz (.str (opS o))] := by
  walk_at "w"
  refine ⟨by omega, ?_⟩
  exact k _ ⟨⟨x, o, y⟩, rfl, hx, hy, hxy⟩
theorem rr_5 {T : DSt} {E : DEn} {n : Nat} {l : List D} {L : List Nat} {s2 s4 s5 s6 s7 : Sl} (hl : Dr l) (nd : L.Nodup) (h2 : 2 ≤ L.length) (hb : L.length ≤ 100) (hL : ∀ x ∈ L, x < n)
    (k : ∀ xs l' s4 s5 s6 s7, Dr l' → RsD n xs → xs.length = L.length → T E [.ow (.list l'), .ow (.list (natD L)), s2, .ow (.list xs), s4, s5, s6, s7]) :
    (sSeq (sFor (iRange1 (aCons (eBi cLen (aCons (eVar 1) aNil)) aNil)) (gN 4) (sSeq (sSet 5 (eIx (eVar 1) (eVar 4)))
    (sSeq (sSet 6 (eIx (eVar 1) (eOp oMod (eBi cInt (aCons (eOp oAdd (eVar 4) (eC (.int 1))) aNil)) (eBi cLen (aCons (eVar 1) aNil)))))
    (sSeq (sSet 7 (eCall m_L_pick 2 [true, false] (aCons (eVar 0) (aCons (eLst (aCons (eC (.str "le")) (aCons (eC (.str "le")) (aCons (eC (.str "lt")) (aCons (eC (.str "eq")) aNil))))) aNil))))
    (sSeq (sIf (tAnd (tB (eOp oEq (eVar 7) (eC (.str "eq")))) (tB (eOp oEq (eCall m_L_draw 2 [true, false] (aCons (eVar 0) (aCons (eC (.int 2)) aNil))) (eC (.int 0))))) (sPar 5 6 (aCons (eVar 6) (aCons (eVar 5) aNil))) sNil)
    (sEx (eMut 3 mApp (aCons (eTup (aCons (eVar 5) (aCons (eVar 7) (aCons (eVar 6) aNil)))) aNil)))))))) T) E
      [.ow (.list l), .ow (.list (natD L)), s2, .ow (.list []), s4, s5, s6, s7] := by
  have hlen := natD_len L
  refine ⟨by unfold bnd62; omega, ?_⟩
  rw [hlen]
  refine forGo_rng (ds := [.ow (.list l), .ow (.list (natD L)), s2, .ow (.list []), s4, s5, s6, s7])
    (fun j ds => ∃ xs l' s4 s5 s6 s7, Dr l' ∧ RsD n xs ∧ xs.length = j ∧ ds = [.ow (.list l'), .ow (.list (natD L)), s2, .ow (.list xs), s4, s5, s6, s7]) ⟨[], l, _, _, _, _, hl, fun d hd => by simp at hd, rfl, rfl⟩ ?_ ?_
  · rintro j ds N hj ⟨xs, l', s4, s5, s6, s7, hl', hx, hxl, rfl⟩ hN
    rw [Int.toNat_natCast] at hj
    refine rr_1 nd h2 hj (by omega) fun x y q1 q2 q3 => ?_
    refine rr_2 hl' fun o l3 hl3 => ?_
    refine rr_3 (P := fun x => x ∈ L) hl3 q1 q2 q3 fun x y l4 q1 q2 q3 hl4 => ?_
    refine rr_4 hx (by omega) (hL _ q1) (hL _ q2) q3 fun d hd => ?_
    exact hN _ ⟨xs ++ [d], l4, _, _, _, _, hl4, hx.snoc hd, by simp; omega, rfl⟩
  · rintro ds ⟨xs, l', s4, s5, s6, s7, hl', hx, hxl, rfl⟩
    rw [Int.toNat_natCast] at hxl
    exact k _ _ _ _ _ _ hl' hx hxl
theorem rr_6 {E : DEn} {n a b : Nat} {l xs : List D} {s1 s4 s5 s6 s7 : Sl} (hl : Dr l) (hxs : RsD n xs) (hlen : xs.length ≤ 1000) (hx : a < n) (hy : b < n) (hxy : a ≠ b)
    (k : ∀ d l', Dr l' → RuleOk n d → E.rt (.fresh (.list (xs ++ [d]))) [.ow (.list l'), s1, .fz (.tuple [.int (a : Int), .int (b : Int)]), .ow (.list xs), s4, s5, s6, s7]) :
    (sRet [0, 1, 2] (eOp oAdd (eVar 3) (eLst (aCons (eTup (aCons (eIx (eVar 2) (eC (.int 0))) (aCons (eCall m_L_pick 2 [true, false] (aCons (eVar 0) (aCons (eLst (aCons (eC (.str "ne")) (aCons (eC (.str "lt")) aNil))) aNil))) (aCons (eIx (eVar 2) (eC (.int 1))) aNil)))) aNil)))) E
      [.ow (.list l), s1, .fz (.tuple [.int (a : Int), .int (b : Int)]), .ow (.list xs), s4, s5, s6, s7] := by
  have hK := fun {s : Sl} {xs : List D} => @pick_ok l hl s xs
  have hK := @pick_op m_L_pick l hK
  generalize m_L_pick = mK at hK ⊢
  walk_at "w"
  refine hK (os := [.ne, .lt]) (by simp) (by simp) fun o l' hl' => ?_
  walk_at "w"
  refine ⟨by simp; omega, ?_⟩
  exact k _ _ hl' ⟨⟨a, o, b⟩, rfl, hx, hy, hxy⟩
theorem run3o {a b c : D} {body : DSt} {Q : Ev → List Sl → Prop} (h : body { nx := fun ds => Q (.val .none) (backA [.ow a, .ow b, .fz c] ds), rt := fun ev ds => retOk ev (Q ev (backA [.ow a, .ow b, .fz c] ds)) } [.ow a, .ow b, .fz c, .no, .no, .no, .no, .no]) : runF [true, true, true] 5 body [.ow a, .ow b, .fz c] Q := h
theorem ring_rules_ok {n a b : Nat} {l : List D} {L : List Nat} (hl : Dr l) (nd : L.Nodup) (h2 : 2 ≤ L.length) (hb : L.length ≤ 100) (hL : ∀ x ∈ L, x < n) (hx : a < n) (hy : b < n) (hxy : a ≠ b) {Q : Ev → List Sl → Prop}
    (k : ∀ xs l', Dr l' → RsD n xs → xs.length = L.length + 1 → Q (.fresh (.list xs)) [.ow (.list l'), .ow (.list (natD L)), .fz (.tuple [.int (a : Int), .int (b : Int)])]) :
    m_L_ring_rules [.ow (.list l), .ow (.list (natD L)), .fz (.tuple [.int (a : Int), .int (b : Int)])] Q := by
  unfold m_L_ring_rules b_L_ring_rules
  refine run3o ?_
  refine rr_0 ?_
  refine rr_5 hl nd h2 hb hL fun xs l' s4 s5 s6 s7 hl' hxs hxl => ?_
  refine rr_6 hl' hxs (by omega) hx hy hxy fun d l3 hl3 hd => ?_
  exact k _ _ hl3 (hxs.snoc hd) (by simp; omega)
end K11
end
section
set_option Elab.async false
set_option linter.all false
set_option maxRecDepth 100000
set_option maxHeartbeats 4000000
namespace K11
open PySem L2 PV
local macro_rules | `(tactic| walk_at "w") => `(tactic| (conv => whnf))
theorem Lots.app {xs ys : List D} (h : Lots xs) (h2 : Lots ys) : Lots (xs ++ ys) := fun e he => by
  rcases List.mem_append.mp he with h1 | h1
  · exact h e h1
  · exact h2 e h1
theorem Lots.nil : Lots [] := fun d hd => by simp at hd
theorem Lots.cons {xs ys : List D} {m : Nat} (h : ITn m xs) (hm : m ≤ 100) (h2 : Lots ys) : Lots (.tuple xs :: ys) := fun e he => by
  rcases List.mem_cons.mp he with rfl | h1
  · exact ⟨_, rfl, h.mono hm⟩
  · exact h2 e h1
theorem ITn.rep {m : Nat} {xs : List D} (h : ITn m xs) : ∀ k, ITn (k * m) (List.replicate k xs).flatten
  | 0 => ⟨[], rfl, by simp⟩
  | k + 1 => by
    rw [List.replicate_succ, List.flatten_cons]
    exact (h.app (ITn.rep h k)).mono (by rw [Nat.add_mul]; omega)
theorem ow_1 {T : DSt} {E : DEn} {n : Nat} {l W : List D} {s3 s4 s5 s6 : Sl} (hl : Dr l) (h1 : 1 ≤ n) (h2 : n ≤ 1000) (hW : 3 ≤ W.length) (hW2 : W.length ≤ 20)
    (k : ∀ (a i x : Nat) l', Dr l' → T E [.ow (.list l'), .fz (.int (n : Int)), .fz (.tuple W), .fz (.int (a : Int)), .fz (.int (1 + (i : Int))), .fz (.int (x : Int)), s6]) :
    (sSeq (sSet 3 (eCall m_L_draw 2 [true, false] (aCons (eVar 0) (aCons (eBi cLen (aCons (eVar 2) aNil)) aNil))))
    (sSeq (sSet 4 (eOp oAdd (eC (.int 1)) (eCall m_L_draw 2 [true, false] (aCons (eVar 0) (aCons (eOp oSub (eBi cLen (aCons (eVar 2) aNil)) (eC (.int 2))) aNil)))))
    (sSeq (sSet 5 (eCall m_L_draw 2 [true, true] (aCons (eVar 0) (aCons (eVar 1) aNil)))) T))) E
      [.ow (.list l), .fz (.int (n : Int)), .fz (.tuple W), s3, s4, s5, s6] := by
  have hD := @draw_ok
  generalize m_L_draw = mD at hD ⊢
  walk_at "w"
  refine hD (many := (W.length : Int)) (by omega) (by omega) hl fun r l2 hr0 hr1 hl2 => ?_
  obtain ⟨a, rfl⟩ := Int.eq_ofNat_of_zero_le hr0
  walk_at "w"
  refine hD (many := (W.length : Int) - 2) (by omega) (by omega) hl2 fun r l3 hr0 hr1 hl3 => ?_
  obtain ⟨i, rfl⟩ := Int.eq_ofNat_of_zero_le hr0
  walk_at "w"
  refine hD (many := (n : Int)) (by omega) (by omega) hl3 fun r l4 hr0 hr1 hl4 => ?_
  obtain ⟨x, rfl⟩ := Int.eq_ofNat_of_zero_le hr0
  exact k _ _ _ _ hl4
theorem ow_2 {T : DSt} {E : DEn} {a x : Int} {W : List D} {s0 s1 s4 s6 : Sl} (h : ITn 20 W)
    (k : ∀ ws, Lots ws → ws.length = 3 → T E [s0, s1, .fz (.tuple W), .fz (.int a), s4, .fz (.int x), .ow (.list ws)]) :
    (sSeq (sSet 6 (eLst (aCons (eOp oAdd (eOp oAdd (eSl (eVar 2) pNo (pSome (eVar 3))) (eTup (aCons (eVar 5) aNil))) (eSl (eVar 2) (pSome (eOp oAdd (eVar 3) (eC (.int 1)))) pNo)) (aCons (eOp oAdd (eSl (eVar 2) pNo (pSome (eVar 3))) (eSl (eVar 2) (pSome (eOp oAdd (eVar 3) (eC (.int 1)))) pNo)) (aCons (eOp oAdd (eOp oAdd (eSl (eVar 2) pNo (pSome (eVar 3))) (eTup (aCons (eVar 5) aNil))) (eSl (eVar 2) (pSome (eVar 3)) pNo)) aNil))))) T) E
      [s0, s1, .fz (.tuple W), .fz (.int a), s4, .fz (.int x), s6] := by
  have i1 := h.cut none (some a)
  have i2 := h.cut (some (a + 1)) none
  have i3 := h.cut (some a) none
  have l1 := i1.len
  have l2 := i2.len
  have l3 := i3.len
  repeat (walk_at "w"; refine ⟨by (try simp only [List.length_append, List.length_cons, List.length_nil, List.length_singleton]); omega, ?_⟩)
  refine k _ (Lots.cons ((i1.app (ITn.one _)).app i2) (by omega) (Lots.cons (i1.app i2) (by omega) (Lots.cons ((i1.app (ITn.one _)).app i3) (by omega) Lots.nil))) rfl
theorem ow_3 {T : DSt} {E : DEn} {i x : Int} {W ws : List D} {s0 s1 s3 : Sl} (h : ITn 20 W) (hw : Lots ws) (hwl : ws.length ≤ 100)
    (k : ∀ qs, Lots qs → qs.length = ws.length + 2 → T E [s0, s1, .fz (.tuple W), s3, .fz (.int i), .fz (.int x), .ow (.list qs)]) :
    (sSeq (sSet 6 (eOp oAdd (eVar 6) (eLst (aCons (eOp oAdd (eSl (eVar 2) pNo (pSome (eVar 4))) (eSl (eVar 2) (pSome (eOp oAdd (eVar 4) (eC (.int 1)))) pNo)) (aCons (eOp oAdd (eOp oAdd (eSl (eVar 2) pNo (pSome (eVar 4))) (eTup (aCons (eVar 5) aNil))) (eSl (eVar 2) (pSome (eOp oAdd (eVar 4) (eC (.int 1)))) pNo)) aNil))))) T) E
      [s0, s1, .fz (.tuple W), s3, .fz (.int i), .fz (.int x), .ow (.list ws)] := by
  have i1 := h.cut none (some i)
  have i2 := h.cut (some (i + 1)) none
  have l1 := i1.len
  have l2 := i2.len
  repeat (walk_at "w"; refine ⟨by (try simp only [List.length_append, List.length_cons, List.length_nil, List.length_singleton]); omega, ?_⟩)
  refine k _ (hw.app (Lots.cons (i1.app i2) (by omega) (Lots.cons ((i1.app (ITn.one _)).app i2) (by omega) Lots.nil))) (by simp)
theorem ow_4 {T : DSt} {E : DEn} {i x : Int} {W ws : List D} {s0 s1 s3 : Sl} (h : ITn 20 W) (hw : Lots ws) (hwl : ws.length ≤ 100)
    (k : ∀ qs, Lots qs → qs.length = ws.length + 7 → T E [s0, s1, .fz (.tuple W), s3, .fz (.int i), .fz (.int x), .ow (.list qs)]) :
    (sSeq (sSet 6 (eOp oAdd (eVar 6) (eLst (aCons (eOp oAdd (eSl (eVar 2) pNo (pSome (eVar 4))) (eSl (eVar 2) (pSome (eOp oSub (eVar 4) (eC (.int 1)))) pNo)) (aCons (eRev (eVar 2)) (aCons (eSl (eVar 2) (pSome (eC (.int 1))) pNo) (aCons (eSl (eVar 2) pNo (pSome (eNeg (eC (.int 1))))) (aCons (eTup aNil) (aCons (eSl (eVar 2) pNo (pSome (eC (.int 1)))) (aCons (eSl (eVar 2) pNo (pSome (eC (.int 2)))) aNil)))))))))) T) E
      [s0, s1, .fz (.tuple W), s3, .fz (.int i), .fz (.int x), .ow (.list ws)] := by
  have i1 := h.cut none (some i)
  have i2 := h.cut (some (i - 1)) none
  have l1 := i1.len
  have l2 := i2.len
  repeat (walk_at "w"; refine ⟨by (try simp only [List.length_append, List.length_cons, List.length_nil, List.length_singleton]); omega, ?_⟩)
  refine k _ (hw.app (Lots.cons (i1.app i2) (by omega) (Lots.cons h.rev (by omega) (Lots.cons (h.cut _ _) (by omega) (Lots.cons (h.cut _ _) (by omega) (Lots.cons ITn.nil (by omega) (Lots.cons (h.cut _ _) (by omega) (Lots.cons (h.cut _ _) (by omega) Lots.nil)))))))) (by simp)
theorem ow_5 {E : DEn} {n x : Int} {W ws : List D} {s0 s3 s4 : Sl} (h : ITn 20 W) (hw : Lots ws) (hwl : ws.length ≤ 100)
    (k : ∀ qs, Lots qs → qs.length = ws.length + 6 → E.rt (.fresh (.list qs)) [s0, .fz (.int n), .fz (.tuple W), s3, s4, .fz (.int x), .ow (.list ws)]) :
    (sRet [0, 1, 2] (eOp oAdd (eVar 6) (eLst (aCons (eOp oAdd (eVar 2) (eTup (aCons (eVar 5) aNil))) (aCons (eOp oAdd (eTup (aCons (eVar 5) aNil)) (eVar 2)) (aCons (eOp oAdd (eSl (eVar 2) pNo (pSome (eC (.int 1)))) (eSl (eVar 2) pNo (pSome (eC (.int 1))))) (aCons (eOp oAdd (eVar 2) (eTup (aCons (eVar 1) aNil))) (aCons (eOp oAdd (eSl (eVar 2) pNo (pSome (eNeg (eC (.int 1))))) (eTup (aCons (eNeg (eC (.int 1))) aNil))) (aCons (eOp oRep (eTup (aCons (eVar 5) aNil)) (eC (.int 3))) aNil))))))))) E
      [s0, .fz (.int n), .fz (.tuple W), s3, s4, .fz (.int x), .ow (.list ws)] := by
  have i1 := h.cut none (some 1)
  have i2 := h.cut none (some (-1))
  have l0 := h.len
  have l1 := i1.len
  have l2 := i2.len
  repeat (walk_at "w"; refine ⟨by (try simp only [List.length_append, List.length_cons, List.length_nil, List.length_singleton]); omega, ?_⟩)
  walk_at "w"
  refine ⟨⟨by simp, by decide, by decide, by simp⟩, ?_⟩
  repeat (walk_at "w"; refine ⟨by (try simp only [List.length_append, List.length_cons, List.length_nil, List.length_singleton]); omega, ?_⟩)
  refine k _ (hw.app (Lots.cons (h.app (ITn.one _)) (by omega) (Lots.cons ((ITn.one _).app h) (by omega) (Lots.cons (i1.app i1) (by omega) (Lots.cons (h.app (ITn.one _)) (by omega) (Lots.cons (i2.app (ITn.one _)) (by omega) (Lots.cons ((ITn.one _).rep 3) (by omega) Lots.nil))))))) (by simp)
theorem run3w {a b c : D} {body : DSt} {Q : Ev → List Sl → Prop} (h : body { nx := fun ds => Q (.val .none) (backA [.ow a, .fz b, .fz c] ds), rt := fun ev ds => retOk ev (Q ev (backA [.ow a, .fz b, .fz c] ds)) } [.ow a, .fz b, .fz c, .no, .no, .no, .no]) : runF [true, true, true] 4 body [.ow a, .fz b, .fz c] Q := h
theorem other_walks_ok {n : Nat} {l W : List D} (hl : Dr l) (h1 : 1 ≤ n) (h2 : n ≤ 20) (h : ITn 20 W) (hW : 3 ≤ W.length) {Q : Ev → List Sl → Prop}
    (k : ∀ ps l', Dr l' → Lots ps → ps.length ≤ 40 → Q (.fresh (.list ps)) [.ow (.list l'), .fz (.int (n : Int)), .fz (.tuple W)]) :
    m_L_other_walks [.ow (.list l), .fz (.int (n : Int)), .fz (.tuple W)] Q := by
  unfold m_L_other_walks b_L_other_walks
  refine run3w ?_
  refine ow_1 hl h1 (by omega) hW h.len fun a i x l2 hl2 => ?_
  refine ow_2 h fun ws q1 q2 => ?_
  refine ow_3 h q1 (by omega) fun ws q1 q2 => ?_
  refine ow_4 h q1 (by omega) fun ws q1 q2 => ?_
  refine ow_5 h q1 (by omega) fun ws q1 q2 => ?_
  exact k _ _ hl2 q1 (by omega)
end K11
end
section
set_option Elab.async false
set_option linter.all false
set_option maxRecDepth 100000
set_option maxHeartbeats 4000000
namespace K11
open PySem L2 PV
local macro_rules | `(tactic| walk_at "w") => `(tactic| (conv => whnf))
theorem op_1 {T : DSt} {E : DEn} {n : Nat} {l : List D} {s2 s3 s4 s5 s6 s7 : Sl} (hl : Dr l) (h1 : 1 ≤ n) (h2 : n ≤ 1000)
    (k : ∀ (x : Nat) l', Dr l' → T E [.ow (.list l'), .fz (.int (n : Int)), s2, s3, .fz (.int (x : Int)), s5, s6, s7]) :
    (sSeq (sSet 4 (eCall m_L_draw 2 [true, true] (aCons (eVar 0) (aCons (eVar 1) aNil)))) T) E
      [.ow (.list l), .fz (.int (n : Int)), s2, s3, s4, s5, s6, s7] := by
  have hD := @draw_ok
  generalize m_L_draw = mD at hD ⊢
  walk_at "w"
  refine hD (many := (n : Int)) (by omega) (by omega) hl fun r l4 hr0 hr1 hl4 => ?_
  obtain ⟨x, rfl⟩ := Int.eq_ofNat_of_zero_le hr0
  exact k _ _ hl4
theorem op_2 {T : DSt} {E : DEn} {a b x : Int} {s0 s1 s3 s5 s6 s7 : Sl}
    (k : ∀ ws, Lots ws → ws.length = 5 → T E [s0, s1, .fz (.tuple [.int a, .int b]), s3, .fz (.int x), .ow (.list ws), s6, s7]) :
    (sSeq (sSet 5 (eLst (aCons (eTup (aCons (eIx (eVar 2) (eC (.int 1))) (aCons (eIx (eVar 2) (eC (.int 0))) aNil))) (aCons (eTup (aCons (eVar 4) (aCons (eIx (eVar 2) (eC (.int 1))) aNil))) (aCons (eTup (aCons (eIx (eVar 2) (eC (.int 0))) (aCons (eVar 4) aNil))) (aCons (eTup (aCons (eIx (eVar 2) (eC (.int 0))) (aCons (eIx (eVar 2) (eC (.int 0))) aNil))) (aCons (eTup (aCons (eIx (eVar 2) (eC (.int 1))) (aCons (eIx (eVar 2) (eC (.int 1))) aNil))) aNil))))))) T) E
      [s0, s1, .fz (.tuple [.int a, .int b]), s3, .fz (.int x), s5, s6, s7] := by
  have two : ∀ a b : Int, ITn 2 [.int a, .int b] := fun a b => ⟨[a, b], rfl, by simp⟩
  exact k _ (Lots.cons (two _ _) (by omega) (Lots.cons (two _ _) (by omega) (Lots.cons (two _ _) (by omega) (Lots.cons (two _ _) (by omega) (Lots.cons (two _ _) (by omega) Lots.nil))))) rfl
def swapD : D → D
  | .tuple [a, b] => .tuple [b, a]
  | d => d
theorem op_3 {T : DSt} {E : DEn} {mA : DSp} {R : D} {A : List Edge} {ws : List D} {s0 s1 s2 s4 : Sl} (hA : ∀ {Q : Ev → List Sl → Prop}, Q (.fresh (.list (A.map pairD))) [.fz R] → mA [.fz R] Q) (hlen : A.length ≤ 1000) (hw : Lots ws) (hwl : ws.length ≤ 100)
    (k : ∀ qs, Lots qs → qs.length ≤ 2100 → T E [s0, s1, s2, .fz R, s4, .ow (.list qs), .no, .no]) :
    (sSeq (sSet 5 (eOp oAdd (eOp oAdd (eVar 5) (eCall mA 1 [true] (aCons (eVar 3) aNil))) (eLc (iFz (eCall mA 1 [true] (aCons (eVar 3) aNil))) [6, 7] (gT 2 (gCs (gN 6) (gCs (gN 7) gNl))) tTrue (eFz (eTup (aCons (eVar 7) (aCons (eVar 6) aNil))))))) T) E
      [s0, s1, s2, .fz R, s4, .ow (.list ws), .no, .no] := by
  have two : ∀ a b : Int, ITn 2 [.int a, .int b] := fun a b => ⟨[a, b], rfl, by simp⟩
  have lA : Lots (A.map pairD) := fun d hd => by
    obtain ⟨e, _, rfl⟩ := List.mem_map.mp hd
    exact ⟨_, rfl, (two _ _).mono (by omega)⟩
  have lB : Lots ((A.map pairD).map swapD) := fun d hd => by
    obtain ⟨d2, hd2, rfl⟩ := List.mem_map.mp hd
    obtain ⟨e, _, rfl⟩ := List.mem_map.mp hd2
    exact ⟨_, rfl, (two _ _).mono (by omega)⟩
  have len2 : (A.map pairD).length = A.length := List.length_map _
  have hm : ∀ d ∈ A.map pairD, ∃ a b, d = .tuple [a, b] := fun d hd => by
    obtain ⟨e, _, rfl⟩ := List.mem_map.mp hd
    exact ⟨_, _, rfl⟩
  generalize A.map pairD = X at *
  walk_at "w"
  refine hA ?_
  walk_at "w"
  refine ⟨by omega, ?_⟩
  refine hA ?_
  have go : ∀ P : List D → DS → Prop, P (X.map swapD) [s0, s1, s2, .fz R, s4, .ow (.list ws), .no, .no] → lcGo (guard none X) [6, 7] (gT 2 (gCs (gN 6) (gCs (gN 7) gNl))) tTrue (eFz (eTup (aCons (eVar 7) (aCons (eVar 6) aNil)))) X [] [s0, s1, s2, .fz R, s4, .ow (.list ws), .no, .no] P := by
    intro P hP
    refine lcGo_fm (fun _ => true) swapD (fun P p => p) (fun d hd A B hA hB => ?_) (fun _ h => h) (by simp; omega) ?_
    · obtain ⟨a, b, rfl⟩ := hm d hd
      exact hA rfl _ rfl
    · rw [List.filter_eq_self.mpr (fun _ _ => rfl), List.nil_append]
      exact hP
  refine go _ ?_
  walk_at "w"
  refine ⟨by simp only [List.length_append, List.length_map]; omega, ?_⟩
  exact k _ ((hw.app lA).app lB) (by simp; omega)
theorem op_4 {E : DEn} {n x a b : Int} {ws : List D} {s0 s3 s6 s7 : Sl} (hw : Lots ws) (hwl : ws.length ≤ 3000)
    (k : ∀ qs, Lots qs → qs.length = ws.length + 5 → E.rt (.fresh (.list qs)) [s0, .fz (.int n), .fz (.tuple [.int a, .int b]), s3, .fz (.int x), .ow (.list ws), s6, s7]) :
    (sRet [0, 1, 2, 3] (eOp oAdd (eVar 5) (eLst (aCons (eSl (eVar 2) pNo (pSome (eC (.int 1)))) (aCons (eTup aNil) (aCons (eOp oAdd (eVar 2) (eTup (aCons (eVar 4) aNil))) (aCons (eTup (aCons (eIx (eVar 2) (eC (.int 0))) (aCons (eVar 1) aNil))) (aCons (eTup (aCons (eNeg (eC (.int 1))) (aCons (eIx (eVar 2) (eC (.int 1))) aNil))) aNil)))))))) E
      [s0, .fz (.int n), .fz (.tuple [.int a, .int b]), s3, .fz (.int x), .ow (.list ws), s6, s7] := by
  have two : ∀ a b : Int, ITn 2 [.int a, .int b] := fun a b => ⟨[a, b], rfl, by simp⟩
  have c := (two a b).cut none (some 1)
  have three : ITn 3 [.int a, .int b, .int x] := ⟨[a, b, x], rfl, by simp⟩
  walk_at "w"
  refine ⟨by simp, ?_⟩
  walk_at "w"
  refine ⟨by simp only [List.length_cons, List.length_nil]; omega, ?_⟩
  exact k _ (hw.app (Lots.cons c (by omega) (Lots.cons ITn.nil (by omega) (Lots.cons three (by omega) (Lots.cons (two _ _) (by omega) (Lots.cons (two _ _) (by omega) Lots.nil)))))) (by simp)
theorem run4 {a b c d : D} {body : DSt} {Q : Ev → List Sl → Prop} (h : body { nx := fun ds => Q (.val .none) (backA [.ow a, .fz b, .fz c, .fz d] ds), rt := fun ev ds => retOk ev (Q ev (backA [.ow a, .fz b, .fz c, .fz d] ds)) } [.ow a, .fz b, .fz c, .fz d, .no, .no, .no, .no]) : runF [true, true, true, true] 4 body [.ow a, .fz b, .fz c, .fz d] Q := h
theorem other_pairs_ok {n : Nat} {a b : Int} {l : List D} {rs : List Rule} (hl : Dr l) (h1 : 1 ≤ n) (h2 : n ≤ 20) (hr : rs.length ≤ 1000) {Q : Ev → List Sl → Prop}
    (k : ∀ ps l', Dr l' → Lots ps → ps.length ≤ 3000 → Q (.fresh (.list ps)) [.ow (.list l'), .fz (.int (n : Int)), .fz (.tuple [.int a, .int b]), .fz (.tuple (rs.map ruleD))]) :
    m_L_other_pairs [.ow (.list l), .fz (.int (n : Int)), .fz (.tuple [.int a, .int b]), .fz (.tuple (rs.map ruleD))] Q := by
  have hA := fun {Q : Ev → List Sl → Prop} => @L_apart_ok rs (by omega) Q
  have hAl : (apartOf rs).length ≤ 1000 := by unfold apartOf; rw [List.length_map]; exact Nat.le_trans (List.length_filter_le _ _) hr
  unfold m_L_other_pairs b_L_other_pairs
  generalize m_L_apart = mA at hA ⊢
  generalize PyData.tuple (rs.map ruleD) = R at *
  refine run4 ?_
  refine op_1 hl h1 (by omega) fun x l2 hl2 => ?_
  refine op_2 fun ws q1 q2 => ?_
  refine op_3 hA hAl q1 (by omega) fun ws q1 q2 => ?_
  refine op_4 q1 (by omega) fun ws q1 q2 => ?_
  exact k _ _ hl2 q1 (by omega)
end K11
end
section
set_option Elab.async false
set_option linter.all false
set_option maxRecDepth 100000
set_option maxHeartbeats 4000000
namespace K11
open PySem L2 PV
local macro_rules | `(tactic| walk_at "w") => `(tactic| (conv => whnf))
def Lists (n : Nat) (ps : List D) : Prop := ∀ d ∈ ps, ∃ xs, d = .tuple xs ∧ RsD n xs ∧ xs.length ≤ 1000
theorem Lists.nil {n : Nat} : Lists n [] := fun d hd => by simp at hd
theorem Lists.app {n : Nat} {xs ys : List D} (h : Lists n xs) (h2 : Lists n ys) : Lists n (xs ++ ys) := fun e he => by
  rcases List.mem_append.mp he with h1 | h1
  · exact h e h1
  · exact h2 e h1
theorem Lists.cons {n : Nat} {xs ys : List D} (h : RsD n xs) (hm : xs.length ≤ 1000) (h2 : Lists n ys) : Lists n (.tuple xs :: ys) := fun e he => by
  rcases List.mem_cons.mp he with rfl | h1
  · exact ⟨_, rfl, h, hm⟩
  · exact h2 e h1
theorem RsD.one {n : Nat} {d : D} (h : RuleOk n d) : RsD n [d] := fun e he => by simp at he; subst he; exact h
theorem cut_len (xs : List D) (a b : Option Int) : (cutG xs a b).length ≤ xs.length := by unfold cutG; rw [List.length_take, List.length_drop]; omega
theorem cut_mem {xs : List D} {a b : Option Int} : ∀ d ∈ cutG xs a b, d ∈ xs := fun d h => List.mem_of_mem_drop (List.mem_of_mem_take h)
theorem ol_0 {T : DSt} {E : DEn} {s0 s1 s2 s3 s4 s5 s6 : Sl} (h : T E [s0, .ow (.list []), s2, s3, s4, s5, s6]) : (sSeq (sSet 1 (eLst aNil)) T) E [s0, s1, s2, s3, s4, s5, s6] := h
theorem ol_1 {T : DSt} {E : DEn} {n j : Nat} {X : List D} {s1 s3 s4 s5 s6 : Sl} (h : RsD n X) (hj : j < X.length)
    (k : ∀ r : Rule, r.x < n → r.y < n → r.x ≠ r.y → T E [.fz (.tuple X), s1, .fz (.int (0 + j)), .fz (.int (r.x : Int)), .fz (.str (opS r.op)), .fz (.int (r.y : Int)), s6]) :
    (sSeq (sAsg (eFz (eIx (eVar 0) (eVar 2))) (gT 3 (gCs (gN 3) (gCs (gN 4) (gCs (gN 5) gNl))))) T) E
      [.fz (.tuple X), s1, .fz (.int (0 + j)), s3, s4, s5, s6] := by
  obtain ⟨r, e, h1, h2, h3⟩ := h _ (List.getElem_mem hj)
  have kk := k r h1 h2 h3
  rw [Int.zero_add] at *
  show atD X (j : Int) _
  refine atD_nat (List.getElem?_eq_getElem hj) ?_
  rw [e]
  obtain ⟨x, o, y⟩ := r
  exact kk
theorem ol_2 {T : DSt} {E : DEn} {n : Nat} {i : Int} {X ps : List D} {x y : Nat} {o : Op4} {s6 : Sl} (h : RsD n X) (hl : X.length ≤ 100) (hx : x < n) (hy : y < n) (hxy : x ≠ y) (hp : Lists n ps) (hpl : ps.length ≤ 1000)
    (k : ∀ qs, Lists n qs → qs.length = ps.length + 2 → T E [.fz (.tuple X), .ow (.list qs), .fz (.int i), .fz (.int (x : Int)), .fz (.str (opS o)), .fz (.int (y : Int)), s6]) :
    (sSeq (sSet 1 (eOp oAdd (eVar 1) (eLst (aCons (eOp oAdd (eSl (eVar 0) pNo (pSome (eVar 2))) (eSl (eVar 0) (pSome (eOp oAdd (eVar 2) (eC (.int 1)))) pNo)) (aCons (eOp oAdd (eOp oAdd (eSl (eVar 0) pNo (pSome (eVar 2))) (eTup (aCons (eTup (aCons (eVar 5) (aCons (eVar 4) (aCons (eVar 3) aNil)))) aNil))) (eSl (eVar 0) (pSome (eOp oAdd (eVar 2) (eC (.int 1)))) pNo)) aNil))))) T) E
      [.fz (.tuple X), .ow (.list ps), .fz (.int i), .fz (.int (x : Int)), .fz (.str (opS o)), .fz (.int (y : Int)), s6] := by
  have l1 := cut_len X none (some i)
  have l2 := cut_len X (some (i + 1)) none
  have r1 : RsD n (cutG X none (some i)) := h.sub cut_mem
  have r2 : RsD n (cutG X (some (i + 1)) none) := h.sub cut_mem
  repeat (walk_at "w"; refine ⟨by (try simp only [List.length_append, List.length_cons, List.length_nil, List.length_singleton]); omega, ?_⟩)
  refine k _ (hp.app (Lists.cons (r1.app r2) (by simp; omega) (Lists.cons ((r1.app (RsD.one ⟨⟨y, o, x⟩, rfl, hy, hx, hxy.symm⟩)).app r2) (by simp; omega) Lists.nil))) (by simp)
theorem ol_3 {E : DEn} {n : Nat} {i : Int} {X ps : List D} {x y : Nat} {s4 s6 : Sl} (h : RsD n X) (hl : X.length ≤ 100) (hx : x < n) (hy : y < n) (hxy : x ≠ y) (hp : Lists n ps) (hpl : ps.length ≤ 1000)
    (k : ∀ qs s6, Lists n qs → qs.length = ps.length + 4 → E.nx [.fz (.tuple X), .ow (.list qs), .fz (.int i), .fz (.int (x : Int)), s4, .fz (.int (y : Int)), s6]) :
    (sFor (iFz (eLst (aCons (eC (.str "eq")) (aCons (eC (.str "ne")) (aCons (eC (.str "lt")) (aCons (eC (.str "le")) aNil)))))) (gN 6) (sEx (eMut 1 mApp (aCons (eOp oAdd (eOp oAdd (eSl (eVar 0) pNo (pSome (eVar 2))) (eTup (aCons (eTup (aCons (eVar 3) (aCons (eVar 6) (aCons (eVar 5) aNil)))) aNil))) (eSl (eVar 0) (pSome (eOp oAdd (eVar 2) (eC (.int 1)))) pNo)) aNil)))) E
      [.fz (.tuple X), .ow (.list ps), .fz (.int i), .fz (.int (x : Int)), s4, .fz (.int (y : Int)), s6] := by
  have l1 := cut_len X none (some i)
  have l2 := cut_len X (some (i + 1)) none
  have r1 : RsD n (cutG X none (some i)) := h.sub cut_mem
  have r2 : RsD n (cutG X (some (i + 1)) none) := h.sub cut_mem
  have go : forGo (guard none ([Op4.eq, .ne, .lt, .le].map fun o => PyData.str (opS o))) (gN 6) (sEx (eMut 1 mApp (aCons (eOp oAdd (eOp oAdd (eSl (eVar 0) pNo (pSome (eVar 2))) (eTup (aCons (eTup (aCons (eVar 3) (aCons (eVar 6) (aCons (eVar 5) aNil)))) aNil))) (eSl (eVar 0) (pSome (eOp oAdd (eVar 2) (eC (.int 1)))) pNo)) aNil))) ([Op4.eq, .ne, .lt, .le].map fun o => PyData.str (opS o)) E [.fz (.tuple X), .ow (.list ps), .fz (.int i), .fz (.int (x : Int)), s4, .fz (.int (y : Int)), s6] := by
   refine forGo_inv (pre := []) (ds := [.fz (.tuple X), .ow (.list ps), .fz (.int i), .fz (.int (x : Int)), s4, .fz (.int (y : Int)), s6])
     (fun pre post ds => (∀ d ∈ post, ∃ o : Op4, d = .str (opS o)) ∧ ∃ qs s6, Lists n qs ∧ qs.length + post.length = ps.length + 4 ∧ ds = [.fz (.tuple X), .ow (.list qs), .fz (.int i), .fz (.int (x : Int)), s4, .fz (.int (y : Int)), s6])
     (fun {pre post ds P} _ p => p) ?_ ?_ ⟨fun d hd => ?_, ps, s6, hp, rfl, rfl⟩
   · rintro pre d post ds N ⟨hall, qs, s6, hq, hql, rfl⟩ hN
     rw [List.length_cons] at hql
     obtain ⟨o, rfl⟩ := hall d List.mem_cons_self
     walk_at "w"
     refine ⟨by (try simp only [List.length_append, List.length_cons, List.length_nil, List.length_singleton]); omega, ?_⟩
     walk_at "w"
     refine ⟨by (try simp only [List.length_append, List.length_cons, List.length_nil, List.length_singleton]); omega, ?_⟩
     walk_at "w"
     refine ⟨by omega, ?_⟩
     refine hN _ ⟨fun e he => hall e (List.mem_cons_of_mem _ he), _, _, hq.app (Lists.cons ((r1.app (RsD.one ⟨⟨x, o, y⟩, rfl, hx, hy, hxy⟩)).app r2) (by simp; omega) Lists.nil), by simp; omega, rfl⟩
   · rintro pre ds ⟨_, qs, s6, hq, hql, rfl⟩
     exact k _ _ hq (by simpa using hql)
   · obtain ⟨o, _, rfl⟩ := List.mem_map.mp hd
     exact ⟨o, rfl⟩
  exact go
theorem ol_4 {T : DSt} {E : DEn} {n : Nat} {X : List D} {s2 s3 s4 s5 s6 : Sl} (h : RsD n X) (hl : X.length ≤ 100)
    (k : ∀ qs s2 s3 s4 s5 s6, Lists n qs → qs.length ≤ 1000 → T E [.fz (.tuple X), .ow (.list qs), s2, s3, s4, s5, s6]) :
    (sSeq (sFor (iRange1 (aCons (eBi cLen (aCons (eVar 0) aNil)) aNil)) (gN 2) (sSeq (sAsg (eFz (eIx (eVar 0) (eVar 2))) (gT 3 (gCs (gN 3) (gCs (gN 4) (gCs (gN 5) gNl)))))
    (sSeq (sSet 1 (eOp oAdd (eVar 1) (eLst (aCons (eOp oAdd (eSl (eVar 0) pNo (pSome (eVar 2))) (eSl (eVar 0) (pSome (eOp oAdd (eVar 2) (eC (.int 1)))) pNo)) (aCons (eOp oAdd (eOp oAdd (eSl (eVar 0) pNo (pSome (eVar 2))) (eTup (aCons (eTup (aCons (eVar 5) (aCons (eVar 4) (aCons (eVar 3) aNil)))) aNil))) (eSl (eVar 0) (pSome (eOp oAdd (eVar 2) (eC (.int 1)))) pNo)) aNil)))))
    (sFor (iFz (eLst (aCons (eC (.str "eq")) (aCons (eC (.str "ne")) (aCons (eC (.str "lt")) (aCons (eC (.str "le")) aNil)))))) (gN 6) (sEx (eMut 1 mApp (aCons (eOp oAdd (eOp oAdd (eSl (eVar 0) pNo (pSome (eVar 2))) (eTup (aCons (eTup (aCons (eVar 3) (aCons (eVar 6) (aCons (eVar 5) aNil)))) aNil))) (eSl (eVar 0) (pSome (eOp oAdd (eVar 2) (eC (.int 1)))) pNo)) aNil))))))) T) E
      [.fz (.tuple X), .ow (.list []), s2, s3, s4, s5, s6] := by
  refine ⟨by unfold bnd62; omega, ?_⟩
  refine forGo_rng (ds := [.fz (.tuple X), .ow (.list []), s2, s3, s4, s5, s6])
    (fun j ds => ∃ qs s2 s3 s4 s5 s6, Lists n qs ∧ qs.length = 6 * j ∧ ds = [.fz (.tuple X), .ow (.list qs), s2, s3, s4, s5, s6]) ⟨[], _, _, _, _, _, Lists.nil, rfl, rfl⟩ ?_ ?_
  · rintro j ds N hj ⟨qs, s2, s3, s4, s5, s6, hq, hql, rfl⟩ hN
    rw [Int.toNat_natCast] at hj
    refine ol_1 h hj fun r h1 h2 h3 => ?_
    refine ol_2 h hl h1 h2 h3 hq (by omega) fun qs hq hql2 => ?_
    refine ol_3 h hl h1 h2 h3 hq (by omega) fun qs s6 hq hql3 => ?_
    exact hN _ ⟨_, _, _, _, _, _, hq, by omega, rfl⟩
  · rintro ds ⟨qs, s2, s3, s4, s5, s6, hq, hql, rfl⟩
    rw [Int.toNat_natCast] at hql
    exact k _ _ _ _ _ _ hq (by omega)
theorem other_lists_ok {n : Nat} {X : List D} (h : RsD n X) (hl : X.length ≤ 100) {Q : Ev → List Sl → Prop}
    (k : ∀ qs, Lists n qs → qs.length ≤ 1000 → Q (.fresh (.list qs)) [.fz (.tuple X)]) : m_L_other_lists [.fz (.tuple X)] Q := by
  unfold m_L_other_lists b_L_other_lists
  refine ol_0 ?_
  refine ol_4 h hl fun qs s2 s3 s4 s5 s6 hq hql => ?_
  exact k _ hq hql
end K11
end
section
set_option Elab.async false
set_option linter.all false
set_option maxRecDepth 100000
set_option maxHeartbeats 4000000
namespace K11
open PySem L2 PV
local macro_rules | `(tactic| walk_at "w") => `(tactic| (conv => whnf))
def Lot (d : D) : Prop := ∃ (n : Nat) (X good others : List D), d = .tuple [.int (n : Int), .tuple X, .list good, .list others] ∧ RsD n X ∧ X.length ≤ 100 ∧ Paps good ∧ Paps others ∧ good ≠ [] ∧ good.length ≤ 100 ∧ others.length ≤ 10000
theorem nl_1 {T : DSt} {E : DEn} {l : List D} {s1 s2 s3 s4 : Sl} (hl : Dr l)
    (k : ∀ (n : Nat) l', 1 ≤ n → n ≤ 7 → Dr l' → T E [.ow (.list l'), .fz (.int (n : Int)), s2, s3, s4]) :
    (sSeq (sSet 1 (eOp oAdd (eC (.int 1)) (eCall m_L_draw 2 [true, false] (aCons (eVar 0) (aCons (eC (.int 7)) aNil))))) T) E
      [.ow (.list l), s1, s2, s3, s4] := by
  have hD := @draw_ok
  generalize m_L_draw = mD at hD ⊢
  walk_at "w"
  refine hD (by decide) (by decide) hl fun r l4 hr0 hr1 hl4 => ?_
  obtain ⟨x, rfl⟩ := Int.eq_ofNat_of_zero_le hr0
  have kk := k (1 + x) l4 (by omega) (by omega) hl4
  rw [show ((1 + x : Nat) : Int) = 1 + (x : Int) by omega] at kk
  exact kk
theorem nl_t {mN : DSp} {n : Nat} {l acc : List D} {s2 s4 : Sl} {x : D} {N : List D → DS → Prop} (hN : ∀ {Q : Ev → List Sl → Prop}, (∀ (i : Int) l', Dr l' → Q (.val (.int i)) [.ow (.list l')]) → mN [.ow (.list l)] Q)
    (k : ∀ (i : Int) l', Dr l' → acc.length < 16777216 ∧ N (acc ++ [.int i]) [.ow (.list l'), .fz (.int (n : Int)), s2, .no, s4]) :
    gN 3 x (wipD [.ow (.list l), .fz (.int (n : Int)), s2, .no, s4] [3]) fun ds1 => tTrue ds1 fun b ds2 => br b
      (eFz (eCall mN 1 [true] (aCons (eVar 0) aNil)) ds2 fun d ds3 => acc.length < 16777216 ∧ N (acc ++ [d]) (rstD [.ow (.list l), .fz (.int (n : Int)), s2, .no, s4] [3] ds3))
      (N acc (rstD [.ow (.list l), .fz (.int (n : Int)), s2, .no, s4] [3] ds2)) := by
  walk_at "w"
  refine hN fun i l' hl' => ?_
  exact k i l' hl'
theorem nl_2 {T : DSt} {E : DEn} {n : Nat} {l : List D} {s2 s4 : Sl} (hl : Dr l) (h2 : n ≤ 7)
    (k : ∀ (ns : List Int) l', Dr l' → ns.length = n → T E [.ow (.list l'), .fz (.int (n : Int)), .fz (.tuple (iD ns)), .no, s4]) :
    (sSeq (sSet 2 (eBi cTuple (aCons (eLc (iRange1 (aCons (eVar 1) aNil)) [3] (gN 3) tTrue (eFz (eCall m_L_number 1 [true] (aCons (eVar 0) aNil)))) aNil))) T) E
      [.ow (.list l), .fz (.int (n : Int)), s2, .no, s4] := by
  have hN := @number_ok
  generalize m_L_number = mN at hN ⊢
  have go : ∀ P : List D → DS → Prop, (∀ (ns : List Int) l', Dr l' → ns.length = n → P (iD ns) [.ow (.list l'), .fz (.int (n : Int)), s2, .no, s4]) →
      lcGo (guard none (rngD 0 (n : Int).toNat)) [3] (gN 3) tTrue (eFz (eCall mN 1 [true] (aCons (eVar 0) aNil))) (rngD 0 (n : Int).toNat) [] [.ow (.list l), .fz (.int (n : Int)), s2, .no, s4] P := by
    intro P hP
    refine lcGo_inv (fun pre post acc ds => ∃ (ns : List Int) (l' : List D), Dr l' ∧ acc = iD ns ∧ ns.length = pre.length ∧ pre.length + post.length = n ∧ ds = [.ow (.list l'), .fz (.int (n : Int)), s2, .no, s4]) (fun {pre post acc ds P} _ p => p) ?_ ?_ (pre := []) ⟨[], l, hl, rfl, rfl, by simp [rngD], rfl⟩
    · rintro pre x post acc ds N ⟨ns, l', hl', rfl, hnl, hpl, rfl⟩ kN
      rw [List.length_cons] at hpl
      have hal : (iD ns).length = ns.length := by simp
      refine nl_t (fun {Q} => hN hl') fun i l2 hl2 => ⟨by omega, ?_⟩
      refine kN _ _ ⟨ns ++ [i], l2, hl2, by simp, by simp; omega, by simp; omega, rfl⟩
    · rintro pre acc ds ⟨ns, l', hl', rfl, hnl, hpl, rfl⟩
      exact hP ns l' hl' (by simp at hpl; omega)
  refine ⟨by unfold bnd62; omega, ?_⟩
  refine go _ fun ns l' hl' hnl => ?_
  exact k ns l' hl' hnl
theorem nl_3 {T : DSt} {E : DEn} {n : Nat} {l : List D} {ns : List Int} {s3 s4 : Sl} (hl : Dr l) (h1 : 1 ≤ n) (h2 : n ≤ 7) (hn : ns.length = n)
    (k : ∀ X l', Dr l' → RsD n X → X.length ≤ 9 → T E [.ow (.list l'), .fz (.int (n : Int)), .fz (.tuple (iD ns)), s3, .fz (.tuple X)]) :
    (sSeq (sSet 4 (eCall m_L_true_rules 3 [true, true, false] (aCons (eVar 0) (aCons (eVar 2) (aCons (eIf (tB (eOp oGt (eVar 1) (eC (.int 1)))) (eCall m_L_draw 2 [true, false] (aCons (eVar 0) (aCons (eC (.int 9)) aNil))) (eC (.int 0))) aNil))))) T) E
      [.ow (.list l), .fz (.int (n : Int)), .fz (.tuple (iD ns)), s3, s4] := by
  have hD := @draw_ok
  generalize m_L_draw = mD at hD ⊢
  have hT := fun {m : Nat} {l : List D} {i : Int} => @true_rules_ok n m l ns i
  generalize m_L_true_rules = mT at hT ⊢
  generalize iD ns = L at *
  walk_at "w"
  refine br_i (fun hb => ?_) (fun hb => ?_)
  · have hb : (1 : Int) < (n : Int) := of_decide_eq_true hb
    refine hD (by decide) (by decide) hl fun r l4 hr0 hr1 hl4 => ?_
    obtain ⟨m, rfl⟩ := Int.eq_ofNat_of_zero_le hr0
    refine hT (m := m) hl4 hn rfl (by omega) (by omega) (fun _ => by omega) fun xs l5 hl5 hx hxl => ?_
    exact k _ _ hl5 hx (by omega)
  · refine hT (m := 0) hl hn rfl (by omega) (by omega) (fun h => absurd h (by decide)) fun xs l5 hl5 hx hxl => ?_
    exact k _ _ hl5 hx (by omega)
theorem nl_4 {E : DEn} {n : Nat} {l X : List D} {ns : List Int} {s3 : Sl} (hl : Dr l) (h1 : 1 ≤ n) (h2 : n ≤ 7) (hn : ns.length = n) (hX : RsD n X) (hXl : X.length ≤ 9)
    (k : ∀ d l', Dr l' → Lot d → E.rt (.val d) [.ow (.list l'), .fz (.int (n : Int)), .fz (.tuple (iD ns)), s3, .fz (.tuple X)]) :
    (sRet [0] (eTup (aCons (eVar 1) (aCons (eVar 4) (aCons (eLst (aCons (eTup (aCons (eC (.str "numbers")) (aCons (eVar 2) aNil))) aNil)) (aCons (eCall m_L_other_numbers 3 [true, true, true] (aCons (eVar 0) (aCons (eVar 1) (aCons (eVar 2) aNil)))) aNil)))))) E
      [.ow (.list l), .fz (.int (n : Int)), .fz (.tuple (iD ns)), s3, .fz (.tuple X)] := by
  have hi : ITn 20 (iD ns) := ⟨ns, rfl, by omega⟩
  have hO := fun {l : List D} => @other_numbers_ok n l ns
  generalize m_L_other_numbers = mO at hO ⊢
  generalize iD ns = L at *
  walk_at "w"
  refine hO hl h1 (by omega) hn fun ps l2 hl2 hp hpl => ?_
  refine k _ _ hl2 ⟨n, X, _, ps, rfl, hX, by omega, fun d hd => ?_, hp, by simp, by simp, by omega⟩
  simp at hd
  subst hd
  exact pap1 (hi.mono (by omega))
theorem run1 {a : D} {body : DSt} {Q : Ev → List Sl → Prop} (h : body { nx := fun ds => Q (.val .none) (backA [.ow a] ds), rt := fun ev ds => retOk ev (Q ev (backA [.ow a] ds)) } [.ow a, .no, .no, .no, .no]) : runF [true] 4 body [.ow a] Q := h
theorem numbers_lot_ok {l : List D} (hl : Dr l) {Q : Ev → List Sl → Prop} (k : ∀ d l', Dr l' → Lot d → Q (.val d) [.ow (.list l')]) : m_L_numbers_lot [.ow (.list l)] Q := by
  unfold m_L_numbers_lot b_L_numbers_lot
  refine run1 ?_
  refine nl_1 hl fun n l h1 h2 hl => ?_
  refine nl_2 hl h2 fun ns l hl hn => ?_
  refine nl_3 hl h1 h2 hn fun X l hl hX hXl => ?_
  refine nl_4 hl h1 h2 hn hX hXl fun d l hl hd => ?_
  exact k _ _ hl hd
end K11
end
section
set_option Elab.async false
set_option linter.all false
set_option maxRecDepth 100000
set_option maxHeartbeats 4000000
namespace K11
open PySem L2 PV
local macro_rules | `(tactic| walk_at "w") => `(tactic| (conv => whnf))
theorem perm_natD {L : List Nat} {ys : List D} (h : ys.Perm (natD L)) : ∃ P : List Nat, ys = natD P ∧ P.Perm L := by
  let un : D → Nat := fun d => match d with | .int i => i.toNat | _ => 0
  have e1 : ∀ L : List Nat, (natD L).map un = L := fun L => by
    induction L with
    | nil => rfl
    | cons x L ih =>
      show un (.int (x : Int)) :: (natD L).map un = x :: L
      rw [ih]
      rfl
  have e2 : ∀ xs : List D, (∀ d ∈ xs, ∃ x : Nat, d = .int (x : Int)) → xs = natD (xs.map un) := fun xs => by
    induction xs with
    | nil => intro _; rfl
    | cons x xs ih =>
      intro h
      obtain ⟨n, rfl⟩ := h x List.mem_cons_self
      have := ih fun d hd => h d (List.mem_cons_of_mem _ hd)
      show PyData.int (n : Int) :: xs = PyData.int (n : Int) :: natD (xs.map un)
      rw [← this]
  refine ⟨ys.map un, e2 ys fun d hd => ?_, ?_⟩
  · obtain ⟨x, _, e⟩ := mem_natD (h.mem_iff.mp hd)
    exact ⟨x, e⟩
  · have := h.map un
    rwa [e1 L] at this
theorem cut_take {xs : List D} (k : Nat) : cutG xs none (some (k : Int)) = xs.take k := by
  unfold cutG
  rw [HT.sIx_none, HT.sIx_nat, Nat.sub_zero, List.drop_zero]
  by_cases h : k ≤ xs.length
  · rw [Nat.min_eq_left h]
  · rw [Nat.min_eq_right (by omega), List.take_of_length_le (Nat.le_refl _), List.take_of_length_le (by omega)]
theorem cut_drop {xs : List D} (k : Nat) : cutG xs (some (k : Int)) none = xs.drop k := by
  unfold cutG
  rw [HT.sIx_none, HT.sIx_nat]
  by_cases h : k ≤ xs.length
  · rw [Nat.min_eq_left h, List.take_of_length_le (by rw [List.length_drop]; omega)]
  · rw [Nat.min_eq_right (by omega), List.drop_of_length_le (Nat.le_refl _), List.drop_of_length_le (by omega), List.take_nil]
theorem natD_take (L : List Nat) (k : Nat) : (natD L).take k = natD (L.take k) := by unfold natD; rw [List.map_take]
theorem natD_drop (L : List Nat) (k : Nat) : (natD L).drop k = natD (L.drop k) := by unfold natD; rw [List.map_drop]
theorem natD_IT {L : List Nat} {m : Nat} (h : L.length ≤ m) : ITn m (natD L) := ⟨L.map fun x : Nat => (x : Int), by unfold natD iD; rw [List.map_map]; rfl, by simpa using h⟩
theorem rl_1 {T : DSt} {E : DEn} {l : List D} (hl : Dr l) {s1 s2 s3 s4 s5 s6 s7 s8 s9 s10 s11 s12 s13 : Sl}
    (k : ∀ (n : Nat) l', 2 ≤ n → n ≤ 8 → Dr l' → T E [.ow (.list l'), .fz (.int (n : Int)), s2, s3, s4, s5, s6, s7, s8, s9, s10, s11, s12, s13]) :
    (sSeq (sSet 1 (eOp oAdd (eC (.int 2)) (eCall m_L_draw 2 [true, false] (aCons (eVar 0) (aCons (eC (.int 7)) aNil))))) T) E
      [.ow (.list l), s1, s2, s3, s4, s5, s6, s7, s8, s9, s10, s11, s12, s13] := by
  have hD := @draw_ok
  generalize m_L_draw = mD at hD ⊢
  walk_at "w"
  refine hD (by decide) (by decide) hl fun r l4 hr0 hr1 hl4 => ?_
  obtain ⟨x, rfl⟩ := Int.eq_ofNat_of_zero_le hr0
  have kk := k (2 + x) l4 (by omega) (by omega) hl4
  rw [show ((2 + x : Nat) : Int) = 2 + (x : Int) by omega] at kk
  exact kk
theorem rl_2 {T : DSt} {E : DEn} {n : Nat} {l : List D} (hl : Dr l) (hn : n ≤ 8) {s2 s3 s4 s5 s6 s7 s8 s9 s10 s11 s12 s13 : Sl}
    (k : ∀ (P : List Nat) l', P.Perm (List.range n) → Dr l' → T E [.ow (.list l'), .fz (.int (n : Int)), .ow (.list (natD P)), s3, s4, s5, s6, s7, s8, s9, s10, s11, s12, s13]) :
    (sSeq (sSet 2 (eCall m_L_shuffled 2 [true, false] (aCons (eVar 0) (aCons (eLRg (rg1 (eVar 1))) aNil)))) T) E
      [.ow (.list l), .fz (.int (n : Int)), s2, s3, s4, s5, s6, s7, s8, s9, s10, s11, s12, s13] := by
  have hH := @shuffled_ok
  generalize m_L_shuffled = mH at hH ⊢
  walk_at "w"
  refine ⟨okRg_n (by omega), ?_⟩
  walk_at "w"
  rw [rng0]
  refine hH hl (.fl (natD (List.range n))) (by rw [natD_len, List.length_range]; omega) fun ys l2 hp hl2 => ?_
  obtain ⟨P, rfl, hP⟩ := perm_natD hp
  exact k _ _ hP hl2
theorem rl_3 {T : DSt} {E : DEn} {n : Nat} {l : List D} {P : List Nat} (hl : Dr l) (hn2 : 2 ≤ n) (hn : n ≤ 8) {s3 s4 s5 s6 s7 s8 s9 s10 s11 s12 s13 : Sl}
    (k : ∀ (m : Nat) l', 2 ≤ m → m ≤ n → Dr l' → T E [.ow (.list l'), .fz (.int (n : Int)), .ow (.list (natD P)), .ow (.list (natD (P.take m))), s4, s5, s6, s7, s8, s9, s10, s11, s12, s13]) :
    (sSeq (sSet 3 (eSl (eVar 2) pNo (pSome (eOp oAdd (eC (.int 2)) (eCall m_L_draw 2 [true, false] (aCons (eVar 0) (aCons (eOp oSub (eVar 1) (eC (.int 1))) aNil))))))) T) E
      [.ow (.list l), .fz (.int (n : Int)), .ow (.list (natD P)), s3, s4, s5, s6, s7, s8, s9, s10, s11, s12, s13] := by
  have hD := @draw_ok
  generalize m_L_draw = mD at hD ⊢
  have e := fun m : Nat => cut_take (xs := natD P) m
  have e2 := natD_take P
  generalize natD P = X at *
  walk_at "w"
  refine hD (many := (n : Int) - 1) (by omega) (by omega) hl fun r l4 hr0 hr1 hl4 => ?_
  obtain ⟨x, rfl⟩ := Int.eq_ofNat_of_zero_le hr0
  have kk := k (2 + x) l4 (by omega) (by omega) hl4
  rw [← e2, ← e, show ((2 + x : Nat) : Int) = 2 + (x : Int) by omega] at kk
  exact kk
theorem rl_4 {T : DSt} {E : DEn} {X : List D} {s0 s1 s2 s4 s5 s6 s7 s8 s9 s10 s11 s12 s13 : Sl}
    (k : T E [s0, s1, s2, .ow (.list X), .ow (.list X), s5, s6, s7, s8, s9, s10, s11, s12, s13]) :
    (sSeq (sSet 4 (eBi cList (aCons (eVar 3) aNil))) T) E
      [s0, s1, s2, .ow (.list X), s4, s5, s6, s7, s8, s9, s10, s11, s12, s13] := by
  exact k
theorem rl_5 {T : DSt} {E : DEn} {l : List D} {L : List Nat} (hl : Dr l) (nd : L.Nodup) (h2 : 2 ≤ L.length) (hb : L.length ≤ 100) {s1 s2 s3 s5 s6 s7 s8 s9 s10 s11 s12 s13 : Sl}
    (k : ∀ (a b : Nat) l' z4, a ∈ L → b ∈ L → a ≠ b → Dr l' → T E [.ow (.list l'), s1, s2, s3, z4, .fz (.tuple [.int (a : Int), .int (b : Int)]), s6, s7, s8, s9, s10, s11, s12, s13]) :
    (sSeq (sSet 5 (eTup (aCons (eCall m_L_pop 2 [true, true] (aCons (eVar 0) (aCons (eVar 4) aNil))) (aCons (eCall m_L_pick 2 [true, true] (aCons (eVar 0) (aCons (eVar 4) aNil))) aNil)))) T) E
      [.ow (.list l), s1, s2, s3, .ow (.list (natD L)), s5, s6, s7, s8, s9, s10, s11, s12, s13] := by
  have hP := @pop_ok
  have hK := @pick_ok
  generalize m_L_pop = mP at hP ⊢
  generalize m_L_pick = mK at hK ⊢
  have hlen := natD_len L
  walk_at "w"
  refine hP hl (by intro e; have := congrArg List.length e; rw [natD_len, List.length_nil] at this; omega) (by omega) fun j2 hj2 l2 hl2 => ?_
  walk_at "w"
  refine hK hl2 (.ow _) (by intro e; have := congrArg List.length e; rw [List.length_eraseIdx_of_lt hj2, natD_len, List.length_nil] at this; omega) (by rw [List.length_eraseIdx_of_lt hj2, natD_len]; omega) fun y l4 hy hl4 => ?_
  obtain ⟨xn, yn, ex, rfl, hx1, hy1, hxy⟩ := pop2 nd hj2 hy
  rw [ex]
  exact k _ _ _ _ hx1 hy1 hxy hl4
theorem rl_6 {T : DSt} {E : DEn} {n a b : Nat} {l : List D} {L : List Nat} (hl : Dr l) (hn2 : 2 ≤ n) (hn : n ≤ 8) (nd : L.Nodup) (h2 : 2 ≤ L.length) (hb : L.length ≤ 8) (hL : ∀ x ∈ L, x < n) (hx : a < n) (hy : b < n) (hxy : a ≠ b) {s2 s4 s6 s7 s8 s9 s10 s11 s12 s13 : Sl}
    (k : ∀ X l', Dr l' → RsD n X → X.length ≤ 12 → T E [.ow (.list l'), .fz (.int (n : Int)), s2, .ow (.list (natD L)), s4, .fz (.tuple [.int (a : Int), .int (b : Int)]), .ow (.list X), s7, s8, s9, s10, s11, s12, s13]) :
    (sSeq (sSet 6 (eOp oAdd (eCall m_L_ring_rules 3 [true, true, true] (aCons (eVar 0) (aCons (eVar 3) (aCons (eVar 5) aNil)))) (eBi cList (aCons (eCall m_L_drawn_rules 3 [true, true, false] (aCons (eVar 0) (aCons (eVar 1) (aCons (eCall m_L_draw 2 [true, false] (aCons (eVar 0) (aCons (eC (.int 4)) aNil))) aNil)))) aNil)))) T) E
      [.ow (.list l), .fz (.int (n : Int)), s2, .ow (.list (natD L)), s4, .fz (.tuple [.int (a : Int), .int (b : Int)]), s6, s7, s8, s9, s10, s11, s12, s13] := by
  have hR := fun {l : List D} (hl : Dr l) => @ring_rules_ok n a b l L hl nd h2 (by omega) hL hx hy hxy
  generalize m_L_ring_rules = mR at hR ⊢
  have hD := @draw_ok
  generalize m_L_draw = mD at hD ⊢
  have hW := fun {m : Nat} {l : List D} => @drawn_ok n m l
  generalize m_L_drawn_rules = mW at hW ⊢
  generalize natD L = X at *
  walk_at "w"
  refine hR hl fun xs l2 hl2 hx hxl => ?_
  walk_at "w"
  refine hD (by decide) (by decide) hl2 fun r l4 hr0 hr1 hl4 => ?_
  obtain ⟨m, rfl⟩ := Int.eq_ofNat_of_zero_le hr0
  refine hW (m := m) hl4 (by omega) (by omega) (fun _ => hn2) fun ys l5 hl5 hy hyl => ?_
  walk_at "w"
  refine ⟨by omega, ?_⟩
  exact k _ _ hl5 (hx.app hy) (by simp; omega)
end K11
end
section
set_option Elab.async false
set_option linter.all false
set_option maxRecDepth 100000
set_option maxHeartbeats 4000000
namespace K11
open PySem L2 PV
local macro_rules | `(tactic| walk_at "w") => `(tactic| (conv => whnf))
theorem rl_7t {L : List Nat} {x : Nat} {h : Nat} {s0 s1 s2 s4 s5 s6 s7 s8 s9 s10 s11 s12 s13 : Sl} {A : D → DS → Prop} {B : DS → Prop} (h0 : (natD L)[0]? = some (.int (h : Int)))
    (k : A (.tuple [.int (x : Int), .str "ne", .int (h : Int)]) [s0, s1, s2, .ow (.list (natD L)), s4, s5, s6, s7, s8, s9, s10, s11, s12, s13]) :
    gN 7 (.int (x : Int)) (wipD [s0, s1, s2, .ow (.list (natD L)), s4, s5, s6, s7, s8, s9, s10, s11, s12, s13] [7]) fun ds1 => tTrue ds1 fun b ds2 => br b ((eFz (eTup (aCons (eVar 7) (aCons (eC (.str "ne")) (aCons (eIx (eVar 3) (eC (.int 0))) aNil))))) ds2 fun d ds3 => A d (rstD [s0, s1, s2, .ow (.list (natD L)), s4, s5, s6, s7, s8, s9, s10, s11, s12, s13] [7] ds3)) (B (rstD [s0, s1, s2, .ow (.list (natD L)), s4, s5, s6, s7, s8, s9, s10, s11, s12, s13] [7] ds2)) := by
  generalize natD L = X at *
  show atD X 0 _
  exact atD_nat (j := 0) h0 k
theorem lcGo_fx {ok : DS → Prop → Prop} {vs : List Nat} {g : DG} {tt : DT} {te : DF} {all : List D} {Q : List D → DS → Prop} {ds : DS} (f : D → D) (hok : ∀ P, P → ok ds P)
    (h : ∀ x ∈ all, ∀ (A : D → DS → Prop) (B : DS → Prop), A (f x) ds → g x (wipD ds vs) fun ds1 => tt ds1 fun b ds2 => br b (te ds2 fun d ds3 => A d (rstD ds vs ds3)) (B (rstD ds vs ds2))) :
    ∀ {xs acc : List D}, (∀ x ∈ xs, x ∈ all) → acc.length + xs.length ≤ 16777216 → Q (acc ++ xs.map f) ds → lcGo ok vs g tt te xs acc ds Q
  | [], acc, _, _, q => by
    refine hok _ ?_
    rw [List.map_nil, List.append_nil] at q; exact q
  | x :: xs, acc, hm, hz, q => by
    rw [List.length_cons] at hz
    refine hok _ (h x (hm x List.mem_cons_self) (fun d ds3 => acc.length < 16777216 ∧ lcGo ok vs g tt te xs (acc ++ [d]) ds3 Q) (fun ds3 => lcGo ok vs g tt te xs acc ds3 Q) ⟨by omega, ?_⟩)
    exact lcGo_fx f hok h (fun y hy => hm y (List.mem_cons_of_mem _ hy)) (by rw [List.length_append, List.length_singleton]; omega) (by rw [List.append_assoc]; exact q)
theorem rl_7 {T : DSt} {E : DEn} {n : Nat} {P : List Nat} {m : Nat} {X : List D} (hP : P.Nodup) (hb : P.length ≤ 8) (h1 : 1 ≤ m) (hm : m ≤ P.length) (hL : ∀ x ∈ P, x < n) (hX : RsD n X) (hXl : X.length ≤ 12) {s0 s1 s4 s5 s7 s8 s9 s10 s11 s12 s13 : Sl}
    (k : ∀ Y, RsD n Y → Y.length ≤ 13 → T E [s0, s1, .ow (.list (natD P)), .ow (.list (natD (P.take m))), s4, s5, .ow (.list Y), s7, s8, s9, s10, s11, s12, s13]) :
    (sSeq (sSet 6 (eOp oAdd (eVar 6) (eLc (iFz (eSl (eSl (eVar 2) (pSome (eBi cLen (aCons (eVar 3) aNil))) pNo) pNo (pSome (eC (.int 1))))) [7] (gN 7) tTrue (eFz (eTup (aCons (eVar 7) (aCons (eC (.str "ne")) (aCons (eIx (eVar 3) (eC (.int 0))) aNil)))))))) T) E
      [s0, s1, .ow (.list (natD P)), .ow (.list (natD (P.take m))), s4, s5, .ow (.list X), s7, s8, s9, s10, s11, s12, s13] := by
  have hnl : (P.take m).length = m := by rw [List.length_take]; omega
  have h0 := natD_get (L := P.take m) (i := 0) (by omega)
  have m0 : (P.take m).getD 0 0 ∈ P.take m := getD_mem (by omega)
  have nd : (P.take m ++ P.drop m).Nodup := by rw [List.take_append_drop]; exact hP
  have dj := (List.nodup_append.mp nd).2.2
  have z1 : cutG (natD P) (some ((natD (P.take m)).length : Int)) none = natD (P.drop m) := by rw [cut_drop, natD_len, hnl, natD_drop]
  have z2 : cutG (natD (P.drop m)) none (some 1) = natD ((P.drop m).take 1) := by rw [← natD_take]; exact cut_take 1
  have zl : ((P.drop m).take 1).length ≤ 1 := List.length_take_le _ _
  have ht := @rl_7t (P.take m)
  generalize (P.take m).getD 0 0 = h at *
  have go : ∀ Pq : List D → DS → Prop, Pq ((natD ((P.drop m).take 1)).map fun d => .tuple [d, .str "ne", .int (h : Int)]) [s0, s1, .ow (.list (natD P)), .ow (.list (natD (P.take m))), s4, s5, .ow (.list X), s7, s8, s9, s10, s11, s12, s13] →
      lcGo (guard none (natD ((P.drop m).take 1))) [7] (gN 7) tTrue (eFz (eTup (aCons (eVar 7) (aCons (eC (.str "ne")) (aCons (eIx (eVar 3) (eC (.int 0))) aNil))))) (natD ((P.drop m).take 1)) [] [s0, s1, .ow (.list (natD P)), .ow (.list (natD (P.take m))), s4, s5, .ow (.list X), s7, s8, s9, s10, s11, s12, s13] Pq := by
    intro Pq hPq
    refine lcGo_fx (all := natD ((P.drop m).take 1)) (fun d => .tuple [d, .str "ne", .int (h : Int)]) (fun P p => p) (fun d hd A B hA => ?_) (fun _ h => h) (by rw [natD_len]; simp only [List.length_nil]; omega) ?_
    · obtain ⟨x, _, rfl⟩ := mem_natD hd
      exact ht h0 hA
    · rw [List.nil_append]
      exact hPq
  have hR : RsD n ((natD ((P.drop m).take 1)).map fun d => .tuple [d, .str "ne", .int (h : Int)]) := fun d hd => by
    obtain ⟨e, he, rfl⟩ := List.mem_map.mp hd
    obtain ⟨x, hx, rfl⟩ := mem_natD he
    have hx := List.mem_of_mem_take hx
    exact ⟨⟨x, .ne, h⟩, rfl, hL x (List.mem_of_mem_drop hx), hL h (List.mem_of_mem_take m0), fun e => dj h m0 x hx e.symm⟩
  have hl2 : ((natD ((P.drop m).take 1)).map fun d => PyData.tuple [d, .str "ne", .int (h : Int)]).length ≤ 1 := by rw [List.length_map, natD_len]; exact zl
  clear ht nd dj hnl h0
  generalize natD ((P.drop m).take 1) = Z at *
  generalize natD (P.drop m) = Z0 at *
  generalize natD (P.take m) = W at *
  generalize natD P = Y at *
  walk_at "w"
  rw [z1, z2]
  refine go _ ?_
  generalize (Z.map fun d => PyData.tuple [d, .str "ne", .int (h : Int)]) = V at *
  walk_at "w"
  refine ⟨by omega, ?_⟩
  exact k _ (hX.app hR) (by simp; omega)
end K11
end
section
set_option Elab.async false
set_option linter.all false
set_option maxRecDepth 100000
set_option maxHeartbeats 4000000
namespace K11
open PySem L2 PV
local macro_rules | `(tactic| walk_at "w") => `(tactic| (conv => whnf))
theorem ITn.tight {m k : Nat} {xs : List D} (h : ITn m xs) (hl : xs.length ≤ k) : ITn k xs := by
  obtain ⟨l, rfl, _⟩ := h
  exact ⟨l, rfl, by simpa using hl⟩
theorem Paps.nil : Paps [] := fun d hd => by simp at hd
theorem Paps.cons {d : D} {xs : List D} (h : PapOk d) (h2 : Paps xs) : Paps (d :: xs) := fun e he => by
  rcases List.mem_cons.mp he with rfl | h1
  · exact h
  · exact h2 e h1
theorem rl_8 {T : DSt} {E : DEn} {n : Nat} {l X : List D} (hl : Dr l) (hX : RsD n X) (hXl : X.length ≤ 13) {s1 s2 s3 s4 s5 s7 s8 s9 s10 s11 s12 s13 : Sl}
    (k : ∀ Y l', RsD n Y → Y.length ≤ 13 → Dr l' → T E [.ow (.list l'), s1, s2, s3, s4, s5, .fz (.tuple Y), s7, s8, s9, s10, s11, s12, s13]) :
    (sSeq (sSet 6 (eBi cTuple (aCons (eCall m_L_shuffled 2 [true, true] (aCons (eVar 0) (aCons (eVar 6) aNil))) aNil))) T) E
      [.ow (.list l), s1, s2, s3, s4, s5, .ow (.list X), s7, s8, s9, s10, s11, s12, s13] := by
  have hH := @shuffled_ok
  generalize m_L_shuffled = mH at hH ⊢
  walk_at "w"
  refine hH hl (.ow X) (by omega) fun ys l2 hp hl2 => ?_
  exact k _ _ (hX.perm hp) (by rw [hp.length_eq]; omega) hl2
theorem rl_9 {T : DSt} {E : DEn} {l W : List D} (hl : Dr l) (h2 : 2 ≤ W.length) (hb : W.length ≤ 8) {s1 s2 s4 s5 s6 s7 s8 s9 s10 s11 s12 s13 : Sl}
    (k : ∀ (c : Nat) l', c < W.length → Dr l' → T E [.ow (.list l'), s1, s2, .ow (.list W), s4, s5, s6, s7, .fz (.int (c : Int)), s9, s10, s11, s12, s13]) :
    (sSeq (sSet 8 (eCall m_L_draw 2 [true, false] (aCons (eVar 0) (aCons (eBi cLen (aCons (eVar 3) aNil)) aNil)))) T) E
      [.ow (.list l), s1, s2, .ow (.list W), s4, s5, s6, s7, s8, s9, s10, s11, s12, s13] := by
  have hD := @draw_ok
  generalize m_L_draw = mD at hD ⊢
  walk_at "w"
  refine hD (many := (W.length : Int)) (by omega) (by omega) hl fun r l4 hr0 hr1 hl4 => ?_
  obtain ⟨x, rfl⟩ := Int.eq_ofNat_of_zero_le hr0
  exact k _ _ (by omega) hl4
theorem rl_10 {T : DSt} {E : DEn} {W : List D} {c : Nat} (hW : ITn 8 W) (hc : c < W.length) {s0 s1 s2 s4 s5 s6 s7 s9 s10 s11 s12 s13 : Sl}
    (k : ∀ U, ITn 8 U → U.length = W.length → T E [s0, s1, s2, .ow (.list W), s4, s5, s6, s7, .fz (.int (c : Int)), .fz (.tuple U), s10, s11, s12, s13]) :
    (sSeq (sSet 9 (eBi cTuple (aCons (eOp oAdd (eSl (eVar 3) (pSome (eVar 8)) pNo) (eSl (eVar 3) pNo (pSome (eVar 8)))) aNil))) T) E
      [s0, s1, s2, .ow (.list W), s4, s5, s6, s7, .fz (.int (c : Int)), s9, s10, s11, s12, s13] := by
  have e1 := cut_drop (xs := W) c
  have e2 := cut_take (xs := W) c
  have i1 := hW.cut (some (c : Int)) none
  have i2 := hW.cut none (some (c : Int))
  have l1 : (cutG W (some (c : Int)) none).length = W.length - c := by rw [e1, List.length_drop]
  have l2 : (cutG W none (some (c : Int))).length = c := by rw [e2, List.length_take]; omega
  have l0 := hW.len
  have hs : (cutG W (some (c : Int)) none ++ cutG W none (some (c : Int))).length = W.length := by rw [List.length_append]; omega
  walk_at "w"
  refine ⟨by omega, ?_⟩
  exact k _ ((i1.app i2).tight (by omega)) hs
theorem rl_11 {T : DSt} {E : DEn} {U : List D} (hU : ITn 8 U) (h2 : 2 ≤ U.length) {s0 s1 s2 s3 s4 s5 s6 s7 s8 s10 s11 s12 s13 : Sl}
    (k : ∀ V, ITn 9 V → 3 ≤ V.length → T E [s0, s1, s2, s3, s4, s5, s6, s7, s8, .fz (.tuple U), .fz (.tuple V), s11, s12, s13]) :
    (sSeq (sSet 10 (eOp oAdd (eVar 9) (eSl (eVar 9) pNo (pSome (eC (.int 1)))))) T) E
      [s0, s1, s2, s3, s4, s5, s6, s7, s8, .fz (.tuple U), s10, s11, s12, s13] := by
  have e2 := cut_take (xs := U) 1
  have i2 := hU.cut none (some (1 : Int))
  have l2 : (cutG U none (some (1 : Int))).length = 1 := by
    have := congrArg List.length e2
    rw [List.length_take] at this
    rw [show (1 : Int) = ((1 : Nat) : Int) from rfl, this]; omega
  have l0 := hU.len
  have hs : (U ++ cutG U none (some (1 : Int))).length = U.length + 1 := by rw [List.length_append]; omega
  walk_at "w"
  refine ⟨by omega, ?_⟩
  exact k _ ((hU.app i2).tight (by omega)) (by omega)
theorem rl_12 {T : DSt} {E : DEn} {U V W : List D} {a b : Int} (hU : ITn 8 U) (hV : ITn 9 V) (hW : ITn 8 W) {s0 s1 s2 s4 s6 s7 s8 s11 s12 s13 : Sl}
    (k : ∀ good, Paps good → good ≠ [] → good.length = 3 → T E [s0, s1, s2, .ow (.list W), s4, .fz (.tuple [.int a, .int b]), s6, s7, s8, .fz (.tuple U), .fz (.tuple V), .ow (.list good), s12, s13]) :
    (sSeq (sSet 11 (eLst (aCons (eTup (aCons (eC (.str "ring")) (aCons (eVar 10) (aCons (eVar 5) aNil)))) (aCons (eTup (aCons (eC (.str "ring")) (aCons (eBi cTuple (aCons (eOp oAdd (eVar 3) (eSl (eVar 3) pNo (pSome (eC (.int 1))))) aNil)) (aCons (eVar 5) aNil)))) (aCons (eTup (aCons (eC (.str "ring")) (aCons (eOp oAdd (eVar 9) (eVar 10)) (aCons (eVar 5) aNil)))) aNil))))) T) E
      [s0, s1, s2, .ow (.list W), s4, .fz (.tuple [.int a, .int b]), s6, s7, s8, .fz (.tuple U), .fz (.tuple V), s11, s12, s13] := by
  have two : ITn 2 [.int a, .int b] := ⟨[a, b], rfl, by simp⟩
  have i1 := hW.cut none (some (1 : Int))
  have l0 := hU.len
  have l1 := hV.len
  have l2 := hW.len
  have l3 := i1.len
  walk_at "w"
  refine ⟨by omega, ?_⟩
  walk_at "w"
  refine ⟨by omega, ?_⟩
  exact k _ (Paps.cons (pap2 (hV.mono (by omega)) (two.mono (by omega))) (Paps.cons (pap2 ((hW.app i1).mono (by omega)) (two.mono (by omega))) (Paps.cons (pap2 ((hU.app hV).mono (by omega)) (two.mono (by omega))) Paps.nil))) (by simp) rfl
theorem rl_13t {d p : D} {s0 s1 s2 s3 s4 s6 s7 s8 s9 s10 s11 s12 s13 : Sl} {A : D → DS → Prop} {B : DS → Prop} (k : A (.tuple [.str "ring", d, p]) [s0, s1, s2, s3, s4, .fz p, s6, s7, s8, s9, s10, s11, s12, s13]) :
    gN 13 d (wipD [s0, s1, s2, s3, s4, .fz p, s6, s7, s8, s9, s10, s11, s12, s13] [13]) fun ds1 => tTrue ds1 fun b ds2 => br b ((eFz (eTup (aCons (eC (.str "ring")) (aCons (eVar 13) (aCons (eVar 5) aNil))))) ds2 fun d ds3 => A d (rstD [s0, s1, s2, s3, s4, .fz p, s6, s7, s8, s9, s10, s11, s12, s13] [13] ds3)) (B (rstD [s0, s1, s2, s3, s4, .fz p, s6, s7, s8, s9, s10, s11, s12, s13] [13] ds2)) := k
theorem rl_13g {p nd v : D} {l ws : List D} {s2 s3 s4 s6 s7 s8 s9 s11 s12 s13 : Sl} {Pq : List D → DS → Prop} (hlen : ws.length ≤ 10000) (k : Pq (ws.map fun d => .tuple [.str "ring", d, p]) [.ow (.list l), .fz nd, s2, s3, s4, .fz p, s6, s7, s8, s9, .fz v, s11, s12, s13]) :
    lcGo (guard none ws) [13] (gN 13) tTrue (eFz (eTup (aCons (eC (.str "ring")) (aCons (eVar 13) (aCons (eVar 5) aNil))))) ws [] [.ow (.list l), .fz nd, s2, s3, s4, .fz p, s6, s7, s8, s9, .fz v, s11, s12, s13] Pq := by
  refine lcGo_fx (all := ws) (fun d => .tuple [.str "ring", d, p]) (fun P p => p) (fun d hd A B hA => ?_) (fun _ h => h) (by simp only [List.length_nil]; omega) ?_
  · exact rl_13t hA
  · rw [List.nil_append]
    exact k
theorem rl_13 {T : DSt} {E : DEn} {n : Nat} {l V : List D} {a b : Int} (hl : Dr l) (h1 : 1 ≤ n) (h2 : n ≤ 8) (hV : ITn 9 V) (hV3 : 3 ≤ V.length) {s2 s3 s4 s6 s7 s8 s9 s11 s12 s13 : Sl}
    (k : ∀ B l', Paps B → B.length ≤ 40 → Dr l' → T E [.ow (.list l'), .fz (.int (n : Int)), s2, s3, s4, .fz (.tuple [.int a, .int b]), s6, s7, s8, s9, .fz (.tuple V), s11, .ow (.list B), s13]) :
    (sSeq (sSet 12 (eLc (iFz (eCall m_L_other_walks 3 [true, true, true] (aCons (eVar 0) (aCons (eVar 1) (aCons (eVar 10) aNil))))) [13] (gN 13) tTrue (eFz (eTup (aCons (eC (.str "ring")) (aCons (eVar 13) (aCons (eVar 5) aNil))))))) T) E
      [.ow (.list l), .fz (.int (n : Int)), s2, s3, s4, .fz (.tuple [.int a, .int b]), s6, s7, s8, s9, .fz (.tuple V), s11, s12, s13] := by
  have two : ITn 2 [.int a, .int b] := ⟨[a, b], rfl, by simp⟩
  have hO := fun {l : List D} => @other_walks_ok n l V
  generalize m_L_other_walks = mO at hO ⊢
  have hg := fun {l ws : List D} => @rl_13g (.tuple [.int a, .int b]) (.int (n : Int)) (.tuple V) l ws
  have hp : ∀ xs, ITn 100 xs → PapOk (.tuple [.str "ring", .tuple xs, .tuple [.int a, .int b]]) := fun xs h => pap2 (h.mono (by omega)) (two.mono (by omega))
  generalize PyData.tuple [.int a, .int b] = p at *
  walk_at "w"
  refine hO hl h1 (by omega) (hV.mono (by omega)) hV3 fun ws l2 hl2 hw hwl => ?_
  refine hg (ws := ws) (by omega) ?_
  refine k _ _ (fun d hd => ?_) (by rw [List.length_map]; exact hwl) hl2
  obtain ⟨e, he, rfl⟩ := List.mem_map.mp hd
  obtain ⟨xs, rfl, hx⟩ := hw e he
  exact hp xs hx
theorem rl_14t {d p nd v r : D} {l B : List D} {s2 s3 s4 s7 s8 s9 s11 s13 : Sl} {A : D → DS → Prop} {B1 : DS → Prop} (k : A (.tuple [.str "ring", v, d]) [.ow (.list l), .fz nd, s2, s3, s4, .fz p, .fz r, s7, s8, s9, .fz v, s11, .ow (.list B), s13]) :
    gN 13 d (wipD [.ow (.list l), .fz nd, s2, s3, s4, .fz p, .fz r, s7, s8, s9, .fz v, s11, .ow (.list B), s13] [13]) fun ds1 => tTrue ds1 fun b ds2 => br b ((eFz (eTup (aCons (eC (.str "ring")) (aCons (eVar 10) (aCons (eVar 13) aNil))))) ds2 fun d ds3 => A d (rstD [.ow (.list l), .fz nd, s2, s3, s4, .fz p, .fz r, s7, s8, s9, .fz v, s11, .ow (.list B), s13] [13] ds3)) (B1 (rstD [.ow (.list l), .fz nd, s2, s3, s4, .fz p, .fz r, s7, s8, s9, .fz v, s11, .ow (.list B), s13] [13] ds2)) := k
theorem rl_14g {p nd v r : D} {l ws B : List D} {s2 s3 s4 s7 s8 s9 s11 s13 : Sl} {Pq : List D → DS → Prop} (hlen : ws.length ≤ 10000) (k : Pq (ws.map fun d => .tuple [.str "ring", v, d]) [.ow (.list l), .fz nd, s2, s3, s4, .fz p, .fz r, s7, s8, s9, .fz v, s11, .ow (.list B), s13]) :
    lcGo (guard none ws) [13] (gN 13) tTrue (eFz (eTup (aCons (eC (.str "ring")) (aCons (eVar 10) (aCons (eVar 13) aNil))))) ws [] [.ow (.list l), .fz nd, s2, s3, s4, .fz p, .fz r, s7, s8, s9, .fz v, s11, .ow (.list B), s13] Pq := by
  refine lcGo_fx (all := ws) (fun d => .tuple [.str "ring", v, d]) (fun P p => p) (fun d hd A B hA => ?_) (fun _ h => h) (by simp only [List.length_nil]; omega) ?_
  · exact rl_14t hA
  · rw [List.nil_append]
    exact k
theorem rl_14 {T : DSt} {E : DEn} {n : Nat} {l V B : List D} {rs : List Rule} {a b : Int} (hl : Dr l) (h1 : 1 ≤ n) (h2 : n ≤ 8) (hV : ITn 9 V) (hr : rs.length ≤ 1000) (hB : Paps B) (hBl : B.length ≤ 40) {s2 s3 s4 s7 s8 s9 s11 s13 : Sl}
    (k : ∀ B l', Paps B → B.length ≤ 3040 → Dr l' → T E [.ow (.list l'), .fz (.int (n : Int)), s2, s3, s4, .fz (.tuple [.int a, .int b]), .fz (.tuple (rs.map ruleD)), s7, s8, s9, .fz (.tuple V), s11, .ow (.list B), s13]) :
    (sSeq (sSet 12 (eOp oAdd (eVar 12) (eLc (iFz (eCall m_L_other_pairs 4 [true, true, true, true] (aCons (eVar 0) (aCons (eVar 1) (aCons (eVar 5) (aCons (eVar 6) aNil)))))) [13] (gN 13) tTrue (eFz (eTup (aCons (eC (.str "ring")) (aCons (eVar 10) (aCons (eVar 13) aNil)))))))) T) E
      [.ow (.list l), .fz (.int (n : Int)), s2, s3, s4, .fz (.tuple [.int a, .int b]), .fz (.tuple (rs.map ruleD)), s7, s8, s9, .fz (.tuple V), s11, .ow (.list B), s13] := by
  have hO := fun {l : List D} => @other_pairs_ok n a b l rs
  generalize m_L_other_pairs = mO at hO ⊢
  have hg := fun {l ws : List D} => @rl_14g (.tuple [.int a, .int b]) (.int (n : Int)) (.tuple V) (.tuple (rs.map ruleD)) l ws
  have hp : ∀ xs, ITn 100 xs → PapOk (.tuple [.str "ring", .tuple V, .tuple xs]) := fun xs h => pap2 (hV.mono (by omega)) (h.mono (by omega))
  generalize PyData.tuple [.int a, .int b] = p at *
  generalize PyData.tuple (rs.map ruleD) = R at *
  walk_at "w"
  refine hO hl h1 (by omega) hr fun ws l2 hl2 hw hwl => ?_
  refine hg (ws := ws) (by omega) ?_
  have hM : Paps (ws.map fun d => .tuple [.str "ring", .tuple V, d]) := fun d hd => by
    obtain ⟨e, he, rfl⟩ := List.mem_map.mp hd
    obtain ⟨xs, rfl, hx⟩ := hw e he
    exact hp xs hx
  have hMl : (ws.map fun d => PyData.tuple [.str "ring", .tuple V, d]).length ≤ 3000 := by rw [List.length_map]; exact hwl
  generalize (ws.map fun d => PyData.tuple [.str "ring", .tuple V, d]) = M at *
  walk_at "w"
  refine ⟨by omega, ?_⟩
  exact k _ _ (hB.app hM) (by rw [List.length_append]; omega) hl2
theorem rl_15 {T : DSt} {E : DEn} {V B : List D} {a b : Int} (hV : ITn 9 V) (hB : Paps B) (hBl : B.length ≤ 3040) {s0 s1 s2 s3 s4 s6 s7 s8 s9 s11 s13 : Sl}
    (k : ∀ B, Paps B → B.length ≤ 3050 → T E [s0, s1, s2, s3, s4, .fz (.tuple [.int a, .int b]), s6, s7, s8, s9, .fz (.tuple V), s11, .ow (.list B), s13]) :
    (sSeq (sSet 12 (eOp oAdd (eVar 12) (eLst (aCons (eTup (aCons (eC (.str "numbers")) (aCons (eVar 10) (aCons (eVar 5) aNil)))) (aCons (eTup (aCons (eC (.str "rings")) (aCons (eVar 10) (aCons (eVar 5) aNil)))) (aCons (eTup (aCons (eC (.str "ring")) (aCons (eVar 5) (aCons (eVar 10) aNil)))) (aCons (eTup (aCons (eC (.str "numbers")) (aCons (eVar 10) aNil))) aNil))))))) T) E
      [s0, s1, s2, s3, s4, .fz (.tuple [.int a, .int b]), s6, s7, s8, s9, .fz (.tuple V), s11, .ow (.list B), s13] := by
  have two : ITn 2 [.int a, .int b] := ⟨[a, b], rfl, by simp⟩
  have tw := two.mono (k := 1000) (by omega)
  have vv := hV.mono (k := 1000) (by omega)
  walk_at "w"
  refine ⟨by simp only [List.length_cons, List.length_nil]; omega, ?_⟩
  exact k _ (hB.app (Paps.cons (pap2 vv tw) (Paps.cons (pap2 vv tw) (Paps.cons (pap2 tw vv) (Paps.cons (pap1 vv) Paps.nil))))) (by simp; omega)
theorem rl_16 {E : DEn} {n : Nat} {V B X G : List D} {a b : Int} (hV : ITn 9 V) (hB : Paps B) (hBl : B.length ≤ 3050) (hX : RsD n X) (hXl : X.length ≤ 100) (hG : Paps G) (hG0 : G ≠ []) (hGl : G.length = 3) {s0 s2 s3 s4 s7 s8 s9 s13 : Sl}
    (k : ∀ d, Lot d → E.rt (.val d) [s0, .fz (.int (n : Int)), s2, s3, s4, .fz (.tuple [.int a, .int b]), .fz (.tuple X), s7, s8, s9, .fz (.tuple V), .fz (.list G), .ow (.list B), s13]) :
    (sRet [0] (eTup (aCons (eVar 1) (aCons (eVar 6) (aCons (eVar 11) (aCons (eOp oAdd (eVar 12) (eLst (aCons (eTup (aCons (eC (.str "ring")) (aCons (eVar 10) aNil))) (aCons (eTup (aCons (eC (.str "ring")) (aCons (eVar 10) (aCons (eVar 5) (aCons (eVar 5) aNil))))) (aCons (eTup (aCons (eC (.str "ring")) aNil)) aNil))))) aNil)))))) E
      [s0, .fz (.int (n : Int)), s2, s3, s4, .fz (.tuple [.int a, .int b]), .fz (.tuple X), s7, s8, s9, .fz (.tuple V), .ow (.list G), .ow (.list B), s13] := by
  have two : ITn 2 [.int a, .int b] := ⟨[a, b], rfl, by simp⟩
  have tw := two.mono (k := 1000) (by omega)
  have vv := hV.mono (k := 1000) (by omega)
  walk_at "w"
  refine ⟨by simp only [List.length_cons, List.length_nil]; omega, ?_⟩
  exact k _ ⟨n, X, G, _, rfl, hX, hXl, hG, hB.app (Paps.cons (pap1 (s := "ring") vv) (Paps.cons (pap3 (s := "ring") vv tw tw) (Paps.cons (papS "ring") Paps.nil))), hG0, by omega, by simp; omega⟩
theorem run1r {a : D} {body : DSt} {Q : Ev → List Sl → Prop} (h : body { nx := fun ds => Q (.val .none) (backA [.ow a] ds), rt := fun ev ds => retOk ev (Q ev (backA [.ow a] ds)) } [.ow a, .no, .no, .no, .no, .no, .no, .no, .no, .no, .no, .no, .no, .no]) : runF [true] 13 body [.ow a] Q := h
theorem ring_lot_ok {l : List D} (hl : Dr l) {Q : Ev → List Sl → Prop} (k : ∀ d l', Dr l' → Lot d → Q (.val d) [.ow (.list l')]) : m_L_ring_lot [.ow (.list l)] Q := by
  unfold m_L_ring_lot b_L_ring_lot
  refine run1r ?_
  refine rl_1 hl fun n l n2 n8 hl => ?_
  refine rl_2 hl n8 fun P l hP hl => ?_
  have pl : P.length = n := by rw [hP.length_eq, List.length_range]
  have pm : ∀ x ∈ P, x < n := fun x hx => List.mem_range.mp (hP.mem_iff.mp hx)
  have pn : P.Nodup := hP.nodup_iff.mpr List.nodup_range
  refine rl_3 hl n2 n8 fun m l m2 mn hl => ?_
  refine rl_4 ?_
  have tl : (P.take m).length = m := by rw [List.length_take]; omega
  have tn : (P.take m).Nodup := List.Nodup.sublist (List.take_sublist _ _) pn
  have tm : ∀ x ∈ P.take m, x < n := fun x hx => pm x (List.mem_of_mem_take hx)
  refine rl_5 hl tn (by omega) (by omega) fun a b l s4 ha hb hab hl => ?_
  refine rl_6 hl n2 n8 tn (by omega) (by omega) tm (tm a ha) (tm b hb) hab fun X l hl hX hXl => ?_
  refine rl_7 pn (by omega) (by omega) (by omega) pm hX hXl fun X hX hXl => ?_
  refine rl_8 hl hX hXl fun X l hX hXl hl => ?_
  have dl := natD_len (P.take m)
  have hW : ITn 8 (natD (P.take m)) := natD_IT (by omega)
  refine rl_9 hl (by omega) (by omega) fun c l hc hl => ?_
  refine rl_10 hW hc fun U hU hUl => ?_
  refine rl_11 hU (by omega) fun V hV hV3 => ?_
  refine rl_12 hU hV hW fun G hG hG0 hGl => ?_
  refine rl_13 hl (by omega) n8 hV hV3 fun B l hB hBl hl => ?_
  obtain ⟨rs, rfl, v⟩ := hX.vr (by omega)
  refine rl_14 hl (by omega) n8 hV v.len hB hBl fun B l hB hBl hl => ?_
  refine rl_15 hV hB hBl fun B hB hBl => ?_
  refine rl_16 hV hB hBl hX (by omega) hG hG0 hGl fun d hd => ?_
  exact k _ _ hl hd
end K11
end
section
set_option Elab.async false
set_option linter.all false
set_option maxRecDepth 100000
set_option maxHeartbeats 4000000
namespace K11
open PySem L2 PV
local macro_rules | `(tactic| walk_at "w") => `(tactic| (conv => whnf))
theorem la_t1 {E : DEn} {n : Nat} {rs : List Rule} {d : D} {s0 s1 s2 s5 s6 s8 s9 : Sl} (v : VR n rs) (hd : PapOk d)
    (k : E.nx [s0, s1, s2, .fz (.int (n : Int)), .fz (.tuple (rs.map ruleD)), s5, s6, .fz d, s8, s9]) :
    (sIf (tNot (tTr (eCall m_L_is_answer 3 [true, true, true] (aCons (eVar 3) (aCons (eVar 4) (aCons (eVar 7) aNil)))))) (sRet [0, 2] (eC (.bool false))) sNil) E
      [s0, s1, s2, .fz (.int (n : Int)), .fz (.tuple (rs.map ruleD)), s5, s6, .fz d, s8, s9] := by
  have hI := fun {Q : Ev → List Sl → Prop} => @is_answer_ok n rs v d hd Q
  generalize m_L_is_answer = mI at hI ⊢
  generalize PyData.tuple (rs.map ruleD) = R at *
  walk_at "w"
  refine hI ?_
  exact k
theorem la_t2 {E : DEn} {n : Nat} {rs : List Rule} {g : D} {good : List D} {s0 s1 s2 s4 s6 s7 s9 : Sl} (v : VR n rs) (hd : PapOk g)
    (k : E.nx [s0, s1, s2, .fz (.int (n : Int)), s4, .fz (.list (g :: good)), s6, s7, .fz (.tuple (rs.map ruleD)), s9]) :
    (sIf (tNot (tTr (eCall m_L_is_answer 3 [true, true, false] (aCons (eVar 3) (aCons (eVar 8) (aCons (eIx (eVar 5) (eC (.int 0))) aNil)))))) (sRet [0, 2] (eC (.bool false))) sNil) E
      [s0, s1, s2, .fz (.int (n : Int)), s4, .fz (.list (g :: good)), s6, s7, .fz (.tuple (rs.map ruleD)), s9] := by
  have hI := fun {Q : Ev → List Sl → Prop} => @is_answer_ok n rs v g hd Q
  generalize m_L_is_answer = mI at hI ⊢
  generalize PyData.tuple (rs.map ruleD) = R at *
  show atD (g :: good) 0 _
  refine atD_nat (j := 0) (x := g) rfl ?_
  refine hI ?_
  exact k
theorem set7 {C : DS → Prop} {x : D} {s0 s1 s2 s3 s4 s5 s6 s7 s8 s9 : Sl} (h : C [s0, s1, s2, s3, s4, s5, s6, .fz x, s8, s9]) : gN 7 x [s0, s1, s2, s3, s4, s5, s6, s7, s8, s9] C := h
theorem set8 {C : DS → Prop} {x : D} {s0 s1 s2 s3 s4 s5 s6 s7 s8 s9 : Sl} (h : C [s0, s1, s2, s3, s4, s5, s6, s7, .fz x, s9]) : gN 8 x [s0, s1, s2, s3, s4, s5, s6, s7, s8, s9] C := h
theorem la_loop {E : DEn} {n : Nat} {rs : List Rule} {ps : List D} {s0 s1 s2 s5 s6 s7 s8 s9 : Sl} (v : VR n rs) (hp : Paps ps)
    (k : ∀ s7, E.nx [s0, s1, s2, .fz (.int (n : Int)), .fz (.tuple (rs.map ruleD)), s5, s6, s7, s8, s9]) :
    forGo (guard none ps) (gN 7) (sIf (tNot (tTr (eCall m_L_is_answer 3 [true, true, true] (aCons (eVar 3) (aCons (eVar 4) (aCons (eVar 7) aNil)))))) (sRet [0, 2] (eC (.bool false))) sNil) ps E
      [s0, s1, s2, .fz (.int (n : Int)), .fz (.tuple (rs.map ruleD)), s5, s6, s7, s8, s9] := by
  have ht := fun {E : DEn} {d : D} {s0 s1 s2 s5 s6 s8 s9 : Sl} => @la_t1 E n rs d s0 s1 s2 s5 s6 s8 s9 v
  generalize (sIf (tNot (tTr (eCall m_L_is_answer 3 [true, true, true] (aCons (eVar 3) (aCons (eVar 4) (aCons (eVar 7) aNil)))))) (sRet [0, 2] (eC (.bool false))) sNil) = B at ht ⊢
  generalize PyData.tuple (rs.map ruleD) = R at *
  refine forGo_inv (ds := [s0, s1, s2, .fz (.int (n : Int)), .fz R, s5, s6, s7, s8, s9]) (fun pre post ds => (∀ d ∈ post, PapOk d) ∧ ∃ s7, ds = [s0, s1, s2, .fz (.int (n : Int)), .fz R, s5, s6, s7, s8, s9]) (fun {pre post ds P} _ p => p) ?_ ?_ (pre := []) ⟨hp, s7, rfl⟩
  · rintro pre x post ds N ⟨hm, s7, rfl⟩ hN
    refine set7 ?_
    refine ht (hm x List.mem_cons_self) ?_
    exact hN _ ⟨fun d hd => hm d (List.mem_cons_of_mem _ hd), _, rfl⟩
  · rintro pre ds ⟨_, s7, rfl⟩
    exact k s7
theorem la_1 {T : DSt} {E : DEn} {n : Nat} {rs : List Rule} {good others : List D} {s0 s1 s2 s7 s8 s9 : Sl} (v : VR n rs) (hg : Paps good) (ho : Paps others) (gl : good.length ≤ 100) (ol : others.length ≤ 10000)
    (k : ∀ s7, T E [s0, s1, s2, .fz (.int (n : Int)), .fz (.tuple (rs.map ruleD)), .fz (.list good), .fz (.list others), s7, s8, s9]) :
    (sSeq (sFor (iFz (eOp oAdd (eOp oAdd (eVar 5) (eVar 6)) (eVar 5))) (gN 7) (sIf (tNot (tTr (eCall m_L_is_answer 3 [true, true, true] (aCons (eVar 3) (aCons (eVar 4) (aCons (eVar 7) aNil)))))) (sRet [0, 2] (eC (.bool false))) sNil)) T) E
      [s0, s1, s2, .fz (.int (n : Int)), .fz (.tuple (rs.map ruleD)), .fz (.list good), .fz (.list others), s7, s8, s9] := by
  have ht := fun {E : DEn} {ps : List D} {s0 s1 s2 s5 s6 s7 s8 s9 : Sl} => @la_loop E n rs ps s0 s1 s2 s5 s6 s7 s8 s9 v
  generalize (sIf (tNot (tTr (eCall m_L_is_answer 3 [true, true, true] (aCons (eVar 3) (aCons (eVar 4) (aCons (eVar 7) aNil)))))) (sRet [0, 2] (eC (.bool false))) sNil) = B at ht ⊢
  generalize PyData.tuple (rs.map ruleD) = R at *
  walk_at "w"
  refine ⟨by omega, ?_⟩
  walk_at "w"
  refine ⟨by rw [List.length_append]; omega, ?_⟩
  exact ht (ps := good ++ others ++ good) ((hg.app ho).app hg) k
theorem la_2 {T : DSt} {E : DEn} {n : Nat} {X good : List D} {s0 s1 s2 s6 s7 s8 s9 : Sl} (hX : RsD n X) (hXl : X.length ≤ 100) (hg : Paps good) (g0 : good ≠ [])
    (k : ∀ s8, T E [s0, s1, s2, .fz (.int (n : Int)), .fz (.tuple X), .fz (.list good), s6, s7, s8, s9]) :
    (sSeq (sFor (iFz (eCall m_L_other_lists 1 [true] (aCons (eVar 4) aNil))) (gN 8) (sIf (tNot (tTr (eCall m_L_is_answer 3 [true, true, false] (aCons (eVar 3) (aCons (eVar 8) (aCons (eIx (eVar 5) (eC (.int 0))) aNil)))))) (sRet [0, 2] (eC (.bool false))) sNil)) T) E
      [s0, s1, s2, .fz (.int (n : Int)), .fz (.tuple X), .fz (.list good), s6, s7, s8, s9] := by
  obtain ⟨g, good, rfl⟩ : ∃ g t, good = g :: t := by
    cases good with
    | nil => exact absurd rfl g0
    | cons g t => exact ⟨g, t, rfl⟩
  have hg1 := hg g List.mem_cons_self
  have ht := fun {E : DEn} {rs : List Rule} {s0 s1 s2 s4 s6 s7 s9 : Sl} => @la_t2 E n rs g good s0 s1 s2 s4 s6 s7 s9
  generalize (sIf (tNot (tTr (eCall m_L_is_answer 3 [true, true, false] (aCons (eVar 3) (aCons (eVar 8) (aCons (eIx (eVar 5) (eC (.int 0))) aNil)))))) (sRet [0, 2] (eC (.bool false))) sNil) = B at ht ⊢
  have hO := @other_lists_ok n X hX hXl
  generalize m_L_other_lists = mO at hO ⊢
  walk_at "w"
  refine hO fun qs hq hql => ?_
  refine forGo_inv (xs := qs) (ds := [s0, s1, s2, .fz (.int (n : Int)), .fz (.tuple X), .fz (.list (g :: good)), s6, s7, s8, s9]) (fun pre post ds => Lists n post ∧ ∃ s8, ds = [s0, s1, s2, .fz (.int (n : Int)), .fz (.tuple X), .fz (.list (g :: good)), s6, s7, s8, s9]) (fun {pre post ds P} _ p => p) ?_ ?_ (pre := []) ⟨hq, s8, rfl⟩
  · rintro pre x post ds N ⟨hm, s8, rfl⟩ hN
    obtain ⟨xs, rfl, hx, hxl⟩ := hm x List.mem_cons_self
    obtain ⟨rs, rfl, v⟩ := hx.vr hxl
    refine set8 ?_
    refine ht v hg1 ?_
    exact hN _ ⟨fun d hd => hm d (List.mem_cons_of_mem _ hd), _, rfl⟩
  · rintro pre ds ⟨_, s8, rfl⟩
    exact k s8
theorem la_3 {E : DEn} {n : Nat} {rs : List Rule} {lots : List D} {s0 s1 s5 s6 s7 s8 s9 : Sl} (v : VR n rs) (hl : ∀ d ∈ lots, Lot d)
    (k : ∀ s7 s9, E.nx [s0, s1, .ow (.list lots), .fz (.int (n : Int)), .fz (.tuple (rs.map ruleD)), s5, s6, s7, s8, s9]) :
    (sFor (iSlot 2) (gN 9) (sFor (iFz (eIx (eVar 9) (eC (.int 2)))) (gN 7) (sIf (tNot (tTr (eCall m_L_is_answer 3 [true, true, true] (aCons (eVar 3) (aCons (eVar 4) (aCons (eVar 7) aNil)))))) (sRet [0, 2] (eC (.bool false))) sNil))) E
      [s0, s1, .ow (.list lots), .fz (.int (n : Int)), .fz (.tuple (rs.map ruleD)), s5, s6, s7, s8, s9] := by
  have ht := fun {E : DEn} {ps : List D} {s0 s1 s2 s5 s6 s7 s8 s9 : Sl} => @la_loop E n rs ps s0 s1 s2 s5 s6 s7 s8 s9 v
  generalize (sIf (tNot (tTr (eCall m_L_is_answer 3 [true, true, true] (aCons (eVar 3) (aCons (eVar 4) (aCons (eVar 7) aNil)))))) (sRet [0, 2] (eC (.bool false))) sNil) = B at ht ⊢
  generalize PyData.tuple (rs.map ruleD) = R at *
  have go : forGo (guard (some 2) lots) (gN 9) (sFor (iFz (eIx (eVar 9) (eC (.int 2)))) (gN 7) B) lots E [s0, s1, .ow (.list lots), .fz (.int (n : Int)), .fz R, s5, s6, s7, s8, s9] := by
    refine forGo_inv (xs := lots) (ds := [s0, s1, .ow (.list lots), .fz (.int (n : Int)), .fz R, s5, s6, s7, s8, s9]) (fun pre post ds => (∀ d ∈ post, Lot d) ∧ ∃ s7 s9, ds = [s0, s1, .ow (.list lots), .fz (.int (n : Int)), .fz R, s5, s6, s7, s8, s9]) (fun {pre post ds P} h p => by obtain ⟨_, s7, s9, rfl⟩ := h; exact ⟨rfl, p⟩) ?_ ?_ (pre := []) ⟨hl, s7, s9, rfl⟩
    · rintro pre x post ds N ⟨hm, s7, s9, rfl⟩ hN
      obtain ⟨n2, X, good, others, rfl, _, _, hg, _, _, _, _⟩ := hm x List.mem_cons_self
      exact ht (ps := good) hg fun s7 => hN _ ⟨fun d hd => hm d (List.mem_cons_of_mem _ hd), _, _, rfl⟩
    · rintro pre ds ⟨_, s7, s9, rfl⟩
      exact k s7 s9
  exact go
theorem la_4 {T : DSt} {E : DEn} {z : D} {lots : List D} {s1 s3 s4 s5 s6 s7 s8 s9 : Sl} (hl : ∀ d ∈ lots, Lot d) (k : ∀ ds, T E ds) :
    (sSeq (sFor (iSlot 2) (gT 4 (gCs (gN 3) (gCs (gN 4) (gCs (gN 5) (gCs (gN 6) gNl))))) (sSeq (sFor (iFz (eOp oAdd (eOp oAdd (eVar 5) (eVar 6)) (eVar 5))) (gN 7) (sIf (tNot (tTr (eCall m_L_is_answer 3 [true, true, true] (aCons (eVar 3) (aCons (eVar 4) (aCons (eVar 7) aNil)))))) (sRet [0, 2] (eC (.bool false))) sNil))
    (sSeq (sFor (iFz (eCall m_L_other_lists 1 [true] (aCons (eVar 4) aNil))) (gN 8) (sIf (tNot (tTr (eCall m_L_is_answer 3 [true, true, false] (aCons (eVar 3) (aCons (eVar 8) (aCons (eIx (eVar 5) (eC (.int 0))) aNil)))))) (sRet [0, 2] (eC (.bool false))) sNil))
    (sFor (iSlot 2) (gN 9) (sFor (iFz (eIx (eVar 9) (eC (.int 2)))) (gN 7) (sIf (tNot (tTr (eCall m_L_is_answer 3 [true, true, true] (aCons (eVar 3) (aCons (eVar 4) (aCons (eVar 7) aNil)))))) (sRet [0, 2] (eC (.bool false))) sNil)))))) T) E
      [.fz z, s1, .ow (.list lots), s3, s4, s5, s6, s7, s8, s9] := by
  have turn : ∀ {E : DEn} {n : Nat} {X good others : List D} {s7 s8 s9 : Sl}, RsD n X → X.length ≤ 100 → Paps good → Paps others → good ≠ [] → good.length ≤ 100 → others.length ≤ 10000 →
      (∀ s7 s8 s9, E.nx [.fz z, s1, .ow (.list lots), .fz (.int (n : Int)), .fz (.tuple X), .fz (.list good), .fz (.list others), s7, s8, s9]) →
      (sSeq (sFor (iFz (eOp oAdd (eOp oAdd (eVar 5) (eVar 6)) (eVar 5))) (gN 7) (sIf (tNot (tTr (eCall m_L_is_answer 3 [true, true, true] (aCons (eVar 3) (aCons (eVar 4) (aCons (eVar 7) aNil)))))) (sRet [0, 2] (eC (.bool false))) sNil))
    (sSeq (sFor (iFz (eCall m_L_other_lists 1 [true] (aCons (eVar 4) aNil))) (gN 8) (sIf (tNot (tTr (eCall m_L_is_answer 3 [true, true, false] (aCons (eVar 3) (aCons (eVar 8) (aCons (eIx (eVar 5) (eC (.int 0))) aNil)))))) (sRet [0, 2] (eC (.bool false))) sNil))
    (sFor (iSlot 2) (gN 9) (sFor (iFz (eIx (eVar 9) (eC (.int 2)))) (gN 7) (sIf (tNot (tTr (eCall m_L_is_answer 3 [true, true, true] (aCons (eVar 3) (aCons (eVar 4) (aCons (eVar 7) aNil)))))) (sRet [0, 2] (eC (.bool false))) sNil))))) E [.fz z, s1, .ow (.list lots), .fz (.int (n : Int)), .fz (.tuple X), .fz (.list good), .fz (.list others), s7, s8, s9] := by
    intro E n X good others s7 s8 s9 hX hXl hg ho g0 gl ol kk
    obtain ⟨rs, rfl, v⟩ := hX.vr (by omega)
    refine la_1 v hg ho gl ol fun s7 => ?_
    refine la_2 hX hXl hg g0 fun s8 => ?_
    refine la_3 v hl fun s7 s9 => ?_
    exact kk _ _ _
  generalize (sSeq (sFor (iFz (eOp oAdd (eOp oAdd (eVar 5) (eVar 6)) (eVar 5))) (gN 7) (sIf (tNot (tTr (eCall m_L_is_answer 3 [true, true, true] (aCons (eVar 3) (aCons (eVar 4) (aCons (eVar 7) aNil)))))) (sRet [0, 2] (eC (.bool false))) sNil))
    (sSeq (sFor (iFz (eCall m_L_other_lists 1 [true] (aCons (eVar 4) aNil))) (gN 8) (sIf (tNot (tTr (eCall m_L_is_answer 3 [true, true, false] (aCons (eVar 3) (aCons (eVar 8) (aCons (eIx (eVar 5) (eC (.int 0))) aNil)))))) (sRet [0, 2] (eC (.bool false))) sNil))
    (sFor (iSlot 2) (gN 9) (sFor (iFz (eIx (eVar 9) (eC (.int 2)))) (gN 7) (sIf (tNot (tTr (eCall m_L_is_answer 3 [true, true, true] (aCons (eVar 3) (aCons (eVar 4) (aCons (eVar 7) aNil)))))) (sRet [0, 2] (eC (.bool false))) sNil))))) = B at turn ⊢
  have go : forGo (guard (some 2) lots) (gT 4 (gCs (gN 3) (gCs (gN 4) (gCs (gN 5) (gCs (gN 6) gNl))))) B lots { E with nx := T E } [.fz z, s1, .ow (.list lots), s3, s4, s5, s6, s7, s8, s9] := by
    refine forGo_inv (xs := lots) (ds := [.fz z, s1, .ow (.list lots), s3, s4, s5, s6, s7, s8, s9]) (fun pre post ds => (∀ d ∈ post, Lot d) ∧ ∃ s3 s4 s5 s6 s7 s8 s9, ds = [.fz z, s1, .ow (.list lots), s3, s4, s5, s6, s7, s8, s9]) (fun {pre post ds P} h p => by obtain ⟨_, s3, s4, s5, s6, s7, s8, s9, rfl⟩ := h; exact ⟨rfl, p⟩) ?_ ?_ (pre := []) ⟨hl, s3, s4, s5, s6, s7, s8, s9, rfl⟩
    · rintro pre x post ds N ⟨hm, s3, s4, s5, s6, s7, s8, s9, rfl⟩ hN
      obtain ⟨n, X, good, others, rfl, hX, hXl, hg, ho, g0, gl, ol⟩ := hm x List.mem_cons_self
      exact turn hX hXl hg ho g0 gl ol fun s7 s8 s9 => hN _ ⟨fun d hd => hm d (List.mem_cons_of_mem _ hd), _, _, _, _, _, _, _, rfl⟩
    · rintro pre ds _
      exact k ds
  exact go
theorem la_0 {T : DSt} {E : DEn} {ns : List Int} (h : ns.length ≤ 63) (k : ∀ l lots, (∀ d ∈ lots, Lot d) → T E [.fz (.list (ns.map PyData.int)), .ow (.list l), .ow (.list lots), .no, .no, .no, .no, .no, .no, .no]) :
    (sSeq (sSet 1 (eCall m_L_begin 1 [true] (aCons (eVar 0) aNil)))
    (sSeq (sSet 2 (eLst (aCons (eCall m_L_numbers_lot 1 [true] (aCons (eVar 1) aNil)) (aCons (eCall m_L_ring_lot 1 [true] (aCons (eVar 1) aNil)) aNil)))) T)) E [.fz (.list (ns.map PyData.int)), .no, .no, .no, .no, .no, .no, .no, .no, .no] := by
  have hB := @begin_ok ns h
  generalize m_L_begin = mB at hB ⊢
  have hN := @numbers_lot_ok
  generalize m_L_numbers_lot = mN at hN ⊢
  have hR := @ring_lot_ok
  generalize m_L_ring_lot = mR at hR ⊢
  generalize PyData.list (ns.map PyData.int) = Z at *
  walk_at "w"
  refine hB fun l hl => ?_
  walk_at "w"
  refine hN hl fun d1 l2 hl2 h1 => ?_
  walk_at "w"
  refine hR hl2 fun d2 l3 hl3 h2 => ?_
  refine k l3 [d1, d2] fun d hd => ?_
  simp only [List.mem_cons, List.not_mem_nil, or_false] at hd
  rcases hd with rfl | rfl
  · exact h1
  · exact h2
theorem law_true : ∀ ns : List Int, ns.length ≤ 63 → m_law [.fz (.list (ns.map PyData.int))] fun ev _ => ev = .val (.bool true) := by
  intro ns h
  unfold m_law b_law
  refine la_0 h fun l lots hl => ?_
  refine la_4 hl fun ds => ?_
  exact rfl
end K11
end
section
set_option Elab.async false
set_option linter.all false
set_option maxRecDepth 100000
set_option maxHeartbeats 4000000
namespace K11
open PySem L2 PV
def topS (i : Nat) : Stmt := PySem.Challenge.pw_standingasks_k11_judge_meeting.main.body.getD i (.Pass ⟨0, 0, 0, 0⟩)
abbrev s_is_whole : Stmt := topS 1
abbrev N_is_whole : List Str := ["thing"]
theorem sc_is_whole : FnScope N_is_whole ["thing"] (defScope s_is_whole) := ⟨rfl, rfl, rfl, by decide +kernel, rfl, by decide +kernel, by decide +kernel⟩
theorem ok_is_whole {P : Program} {w : World} {K : PySem.W.Frag} {mg : Str → Option Value} {base : Heap} (mz_isinstance : mg "isinstance" = none) (mz_int : mg "int" = none) (mz_bool : mg "bool" = none) {fa : Addr} {fd : FuncData} (F : Fun K "is_whole" "is_whole" s_is_whole fa fd) :
    FnOk P w K mg base CX0 1 fa fd ["thing"] (spD K 1 m_is_whole) := by
  unfold m_is_whole
  exact def_ok (N := N_is_whole) (m := 0) (k := 0) (bs := [true]) F sc_is_whole rfl rfl fun cdv A outer s H E hr =>
    (pvb_one (pvs_ret (pn := [0]) (pve_and (pve_isi rfl mz_isinstance (pve_var 0 (pv 0)) (pe_bltn rfl mz_int (by decide +kernel) rfl) (by decide +kernel)) (pve_one (pve_not (pve_isi rfl mz_isinstance (pve_var 0 (pv 0)) (pe_bltn rfl mz_bool (by decide +kernel) rfl) (by decide +kernel)))))))
abbrev s_holds : Stmt := topS 3
abbrev N_holds : List Str := ["left", "op", "right"]
theorem sc_holds : FnScope N_holds ["left", "op", "right"] (defScope s_holds) := ⟨rfl, rfl, rfl, by decide +kernel, rfl, by decide +kernel, by decide +kernel⟩
theorem ok_holds {P : Program} {w : World} {K : PySem.W.Frag} {mg : Str → Option Value} {base : Heap} {fa : Addr} {fd : FuncData} (F : Fun K "holds" "holds" s_holds fa fd) :
    FnOk P w K mg base CX0 1 fa fd ["left", "op", "right"] (spD K 3 m_holds) := by
  unfold m_holds
  exact def_ok (N := N_holds) (m := 0) (k := 0) (bs := [true, true, true]) F sc_holds rfl rfl fun cdv A outer s H E hr =>
    (pvb_cons (pvs_if (pvt_cmp (opv_eq (un_of hr)) (pve_var 1 (pv 1)) pve_str (nomark _)) (pvb_one (pvs_ret (pn := [0, 1, 2]) (pve_cmp (opv_eq (un_of hr)) (pve_var 0 (pv 0)) (pve_var 2 (pv 2)) (nomark _)))) pvb_nil)
    (pvb_cons (pvs_if (pvt_cmp (opv_eq (un_of hr)) (pve_var 1 (pv 1)) pve_str (nomark _)) (pvb_one (pvs_ret (pn := [0, 1, 2]) (pve_cmp (opv_ne (un_of hr)) (pve_var 0 (pv 0)) (pve_var 2 (pv 2)) (nomark _)))) pvb_nil)
    (pvb_cons (pvs_if (pvt_cmp (opv_eq (un_of hr)) (pve_var 1 (pv 1)) pve_str (nomark _)) (pvb_one (pvs_ret (pn := [0, 1, 2]) (pve_cmp (opv_lt) (pve_var 0 (pv 0)) (pve_var 2 (pv 2)) (nomark _)))) pvb_nil)
    (pvb_one (pvs_ret (pn := [0, 1, 2]) (pve_cmp (opv_le) (pve_var 0 (pv 0)) (pve_var 2 (pv 2)) (nomark _)))))))
abbrev s_steps_of : Stmt := topS 5
abbrev N_steps_of : List Str := ["comparisons", "found", "x", "op", "y"]
theorem sc_steps_of : FnScope N_steps_of ["comparisons"] (defScope s_steps_of) := ⟨rfl, rfl, rfl, by decide +kernel, rfl, by decide +kernel, by decide +kernel⟩
theorem ok_steps_of {P : Program} {w : World} {K : PySem.W.Frag} {mg : Str → Option Value} {base : Heap} {fa : Addr} {fd : FuncData} (F : Fun K "steps_of" "steps_of" s_steps_of fa fd) :
    FnOk P w K mg base CX0 1 fa fd ["comparisons"] (spD K 1 m_steps_of) := by
  unfold m_steps_of
  exact def_ok (N := N_steps_of) (m := 4) (k := 0) (bs := [true]) F sc_steps_of rfl rfl fun cdv A outer s H E hr =>
    (pvb_cons (aSet (i := 1) sc_steps_of.nd (pve_lst pva_nil))
    (pvb_cons (pvs_for (pn' := [0]) (sl := [2, 3, 4]) rfl PassesOwn.never (pvi_slot (pv 0) (by decide)) (pvg_tup rfl (pvgs_cons (aName (sl := [2, 3, 4]) sc_steps_of.nd) (pvgs_cons (aName (sl := [2, 3, 4]) sc_steps_of.nd) (pvgs_cons (aName (sl := [2, 3, 4]) sc_steps_of.nd) pvgs_nil)))) (pvb_cons (pvs_if (pvt_cmp (opv_ne (un_of hr)) (pve_var 3 (pv 3)) pve_str (nomark _)) (pvb_one (pvs_expr (pve_mut (i := 1) PySem.F.slot_list_append PySem.F.type_list_append mv_app (pv 1) (pva_cons (pve_tup (pva_cons (pve_var 2 (pv 2)) (pva_cons (pve_var 4 (pv 4)) pva_nil))) pva_nil)))) pvb_nil)
    (pvb_one (pvs_if (pvt_cmp (opv_eq (un_of hr)) (pve_var 3 (pv 3)) pve_str (nomark _)) (pvb_one (pvs_expr (pve_mut (i := 1) PySem.F.slot_list_append PySem.F.type_list_append mv_app (pv 1) (pva_cons (pve_tup (pva_cons (pve_var 4 (pv 4)) (pva_cons (pve_var 2 (pv 2)) pva_nil))) pva_nil)))) pvb_nil))) (by decide) (by decide))
    (pvb_one (pvs_ret (pn := [0]) (pve_var 1 (pv 1))))))
abbrev s_apart_pairs : Stmt := topS 6
abbrev N_apart_pairs : List Str := ["comparisons", "x", "op", "y"]
theorem sc_apart_pairs : FnScope N_apart_pairs ["comparisons"] (defScope s_apart_pairs) := ⟨rfl, rfl, rfl, by decide +kernel, rfl, by decide +kernel, by decide +kernel⟩
theorem ok_apart_pairs {P : Program} {w : World} {K : PySem.W.Frag} {mg : Str → Option Value} {base : Heap} {fa : Addr} {fd : FuncData} (F : Fun K "apart_pairs" "apart_pairs" s_apart_pairs fa fd) :
    FnOk P w K mg base CX0 1 fa fd ["comparisons"] (spD K 1 m_apart_pairs) := by
  unfold m_apart_pairs
  exact def_ok (N := N_apart_pairs) (m := 3) (k := 0) (bs := [true]) F sc_apart_pairs rfl rfl fun cdv A outer s H E hr =>
    (pvb_one (pvs_ret (pn := [0]) (pve_lc (pn := [0]) (own := [("x", 1), ("op", 2), ("y", 3)]) (sl := [1, 2, 3]) rfl sc_apart_pairs.nd (pvi_slot (pv 0) (by decide)) (blk_by N_apart_pairs (defScope s_apart_pairs) (by decide +kernel)) (by decide) (fun _ _ _ _ _ => pvg_tup rfl (pvgs_cons (aName (sl := [1, 2, 3]) sc_apart_pairs.nd) (pvgs_cons (aName (sl := [1, 2, 3]) sc_apart_pairs.nd) (pvgs_cons (aName (sl := [1, 2, 3]) sc_apart_pairs.nd) pvgs_nil)))) (fun _ _ _ _ _ => pvts_one (PVW.t (pvw_or (pvt_cmp (opv_eq (un_of hr)) (pve_var 2 (pv 2)) pve_str (nomark _)) (pvw_or1 (pvt_cmp (opv_eq (un_of hr)) (pve_var 2 (pv 2)) pve_str (nomark _)))))) (fun _ _ _ _ _ => (pve_tup (pva_cons (pve_var 1 (pv 1)) (pva_cons (pve_var 3 (pv 3)) pva_nil)))))))
abbrev s_meets : Stmt := topS 7
abbrev N_meets : List Str := ["comparisons", "numbers", "x", "op", "y"]
theorem sc_meets : FnScope N_meets ["comparisons", "numbers"] (defScope s_meets) := ⟨rfl, rfl, rfl, by decide +kernel, rfl, by decide +kernel, by decide +kernel⟩
theorem ok_meets {P : Program} {w : World} {K : PySem.W.Frag} {mg : Str → Option Value} {base : Heap} (C_holds : Callee P w K mg base 1 "holds" 3 m_holds) (mz_all : mg "all" = none) {fa : Addr} {fd : FuncData} (F : Fun K "meets" "meets" s_meets fa fd) :
    FnOk P w K mg base CX0 2 fa fd ["comparisons", "numbers"] (spD K 2 m_meets) := by
  unfold m_meets
  exact def_ok (N := N_meets) (m := 3) (k := 1) (bs := [true, true]) F sc_meets rfl rfl fun cdv A outer s H E hr =>
    (pvb_one (pvs_ret (pn := [0, 1]) (pve_bi (cv_all rfl) rfl mz_all (by decide +kernel) (pva_cons (pve_lc (pn := [0]) (own := [("x", 2), ("op", 3), ("y", 4)]) (sl := [2, 3, 4]) rfl sc_meets.nd (pvi_slot (pv 0) (by decide)) (blk_by N_meets (defScope s_meets) (by decide +kernel)) (by decide) (fun _ _ _ _ _ => pvg_tup rfl (pvgs_cons (aName (sl := [2, 3, 4]) sc_meets.nd) (pvgs_cons (aName (sl := [2, 3, 4]) sc_meets.nd) (pvgs_cons (aName (sl := [2, 3, 4]) sc_meets.nd) pvgs_nil)))) (fun _ _ _ _ _ => pvts_nil) (fun _ _ _ _ _ => (pve_call (bs := [false, true, false]) C_holds (hr.mono (by decide)) rfl pass0 (pva_cons (pve_ix (pve_var 1 (pv 1)) (pve_var 2 (pv 2))) (pva_cons (pve_var 3 (pv 3)) (pva_cons (pve_ix (pve_var 1 (pv 1)) (pve_var 4 (pv 4))) pva_nil)))))) pva_nil))))
abbrev s_judge_ring : Stmt := topS 9
abbrev N_judge_ring : List Str := ["comparisons", "walk", "pair", "steps", "x", "y", "apart"]
theorem sc_judge_ring : FnScope N_judge_ring ["comparisons", "walk", "pair"] (defScope s_judge_ring) := ⟨rfl, rfl, rfl, by decide +kernel, rfl, by decide +kernel, by decide +kernel⟩
theorem ok_judge_ring {P : Program} {w : World} {K : PySem.W.Frag} {mg : Str → Option Value} {base : Heap} (C_steps_of : Callee P w K mg base 1 "steps_of" 1 m_steps_of) (C_apart_pairs : Callee P w K mg base 1 "apart_pairs" 1 m_apart_pairs) (mz_isinstance : mg "isinstance" = none) (mz_tuple : mg "tuple" = none) (mz_len : mg "len" = none) (mz_zip : mg "zip" = none) {fa : Addr} {fd : FuncData} (F : Fun K "judge_ring" "judge_ring" s_judge_ring fa fd) :
    FnOk P w K mg base CX0 2 fa fd ["comparisons", "walk", "pair"] (spD K 3 m_judge_ring) := by
  unfold m_judge_ring
  exact def_ok (N := N_judge_ring) (m := 4) (k := 1) (bs := [true, true, true]) F sc_judge_ring rfl rfl fun cdv A outer s H E hr =>
    (pvb_cons (pvs_if (PVW.t (pvw_or (pvt_not (pvt_tr (pve_isi rfl mz_isinstance (pve_var 1 (pv 1)) (pe_bltn rfl mz_tuple (by decide +kernel) rfl) (by decide +kernel)))) (pvw_or1 (pvt_not (pvt_tr (pve_isi rfl mz_isinstance (pve_var 2 (pv 2)) (pe_bltn rfl mz_tuple (by decide +kernel) rfl) (by decide +kernel))))))) (pvb_one (pvs_ret (pn := [0, 1, 2]) pve_bl)) pvb_nil)
    (pvb_cons (pvs_if (PVW.t (pvw_or (pvt_cmp (opv_lt) (pve_bi (cv_len) rfl mz_len (by decide +kernel) (pva_cons (pve_var 1 (pv 1)) pva_nil)) pve_int (nomark _)) (pvw_or (pvt_cmp (opv_ne (un_of hr)) (pve_ix (pve_var 1 (pv 1)) pve_int) (pve_ix (pve_var 1 (pv 1)) (pve_neg pve_int)) (nomark _)) (pvw_or1 (pvt_cmp (opv_ne (un_of hr)) (pve_bi (cv_len) rfl mz_len (by decide +kernel) (pva_cons (pve_var 2 (pv 2)) pva_nil)) pve_int (nomark _)))))) (pvb_one (pvs_ret (pn := [0, 1, 2]) pve_bl)) pvb_nil)
    (pvb_cons (aSet (i := 3) sc_judge_ring.nd (pve_call (bs := [true]) C_steps_of (hr.mono (by decide)) rfl pass0 (pva_cons (pve_var 0 (pv 0)) pva_nil)))
    (pvb_cons (pvs_for (pn' := [0, 1, 2]) (sl := [4, 5]) rfl PassesOwn.never (pvi_zip rfl mz_zip (pva_cons (pve_sl (pve_var 1 (pv 1)) pvo_none (pvo_some (pve_neg pve_int))) (pva_cons (pve_sl (pve_var 1 (pv 1)) (pvo_some pve_int) pvo_none) pva_nil))) (pvg_tup rfl (pvgs_cons (aName (sl := [4, 5]) sc_judge_ring.nd) (pvgs_cons (aName (sl := [4, 5]) sc_judge_ring.nd) pvgs_nil))) (pvb_one (pvs_if (pvt_cmp (opv_notIn (un_of hr)) (pve_tup (pva_cons (pve_var 4 (pv 4)) (pva_cons (pve_var 5 (pv 5)) pva_nil))) (pve_var 3 (pv 3)) (by with_unfolding_all rfl)) (pvb_one (pvs_ret (pn := [0, 1, 2]) pve_bl)) pvb_nil)) (by decide) (by decide))
    (pvb_cons (pvs_asg (sl := [4, 5]) (pve_var 2 (pv 2)) (pvg_tup rfl (pvgs_cons (aName (sl := [4, 5]) sc_judge_ring.nd) (pvgs_cons (aName (sl := [4, 5]) sc_judge_ring.nd) pvgs_nil))) (by decide))
    (pvb_cons (aSet (i := 6) sc_judge_ring.nd (pve_call (bs := [true]) C_apart_pairs (hr.mono (by decide)) rfl pass0 (pva_cons (pve_var 0 (pv 0)) pva_nil)))
    (pvb_one (pvs_ret (pn := [0, 1, 2]) (pve_and (pve_cmp (opv_in (un_of hr)) (pve_var 4 (pv 4)) (pve_var 1 (pv 1)) (by with_unfolding_all rfl)) (pve_and (pve_cmp (opv_in (un_of hr)) (pve_var 5 (pv 5)) (pve_var 1 (pv 1)) (by with_unfolding_all rfl)) (pve_one (pve_or (pve_cmp (opv_in (un_of hr)) (pve_tup (pva_cons (pve_var 4 (pv 4)) (pva_cons (pve_var 5 (pv 5)) pva_nil))) (pve_var 6 (pv 6)) (by with_unfolding_all rfl)) (pve_one (pve_cmp (opv_in (un_of hr)) (pve_tup (pva_cons (pve_var 5 (pv 5)) (pva_cons (pve_var 4 (pv 4)) pva_nil))) (pve_var 6 (pv 6)) (by with_unfolding_all rfl)))))))))))))))
abbrev s_judge_meeting : Stmt := topS 8
abbrev N_judge_meeting : List Str := ["many", "comparisons", "paper", "numbers", "number"]
theorem sc_judge_meeting : FnScope N_judge_meeting ["many", "comparisons", "paper"] (defScope s_judge_meeting) := ⟨rfl, rfl, rfl, by decide +kernel, rfl, by decide +kernel, by decide +kernel⟩
theorem ok_judge_meeting {P : Program} {w : World} {K : PySem.W.Frag} {mg : Str → Option Value} {base : Heap} (C_is_whole : Callee P w K mg base 1 "is_whole" 1 m_is_whole) (C_meets : Callee P w K mg base 2 "meets" 2 m_meets) (C_judge_ring : Callee P w K mg base 2 "judge_ring" 3 m_judge_ring) (mz_len : mg "len" = none) (mz_isinstance : mg "isinstance" = none) (mz_tuple : mg "tuple" = none) (mz_all : mg "all" = none) {fa : Addr} {fd : FuncData} (F : Fun K "judge_meeting" "judge_meeting" s_judge_meeting fa fd) :
    FnOk P w K mg base CX0 3 fa fd ["many", "comparisons", "paper"] (spD K 3 m_judge_meeting) := by
  unfold m_judge_meeting
  exact def_ok (N := N_judge_meeting) (m := 2) (k := 2) (bs := [true, true, true]) F sc_judge_meeting rfl rfl fun cdv A outer s H E hr =>
    (pvb_cons (pvs_if (PVW.t (pvw_and (pvt_cmp (opv_eq (un_of hr)) (pve_bi (cv_len) rfl mz_len (by decide +kernel) (pva_cons (pve_var 2 (pv 2)) pva_nil)) pve_int (nomark _)) (pvw_and1 (pvt_cmp (opv_eq (un_of hr)) (pve_ix (pve_var 2 (pv 2)) pve_int) pve_str (nomark _))))) (pvb_cons (aSet (i := 3) sc_judge_meeting.nd (pve_ix (pve_var 2 (pv 2)) pve_int))
    (pvb_cons (pvs_if (PVW.t (pvw_or (pvt_not (pvt_tr (pve_isi rfl mz_isinstance (pve_var 3 (pv 3)) (pe_bltn rfl mz_tuple (by decide +kernel) rfl) (by decide +kernel)))) (pvw_or1 (pvt_cmp (opv_ne (un_of hr)) (pve_bi (cv_len) rfl mz_len (by decide +kernel) (pva_cons (pve_var 3 (pv 3)) pva_nil)) (pve_var 0 (pv 0)) (nomark _))))) (pvb_one (pvs_ret (pn := [0, 1, 2]) pve_bl)) pvb_nil)
    (pvb_one (pvs_ret (pn := [0, 1, 2]) (pve_and (pve_bi (cv_all rfl) rfl mz_all (by decide +kernel) (pva_cons (pve_lc (pn := [3]) (own := [("number", 4)]) (sl := [4]) rfl sc_judge_meeting.nd (pvi_slot (pv 3) (by decide)) (blk_by N_judge_meeting (defScope s_judge_meeting) (by decide +kernel)) (by decide) (fun _ _ _ _ _ => aName (sl := [4]) sc_judge_meeting.nd) (fun _ _ _ _ _ => pvts_nil) (fun _ _ _ _ _ => (pve_call (bs := [true]) C_is_whole (hr.mono (by decide)) rfl pass0 (pva_cons (pve_var 4 (pv 4)) pva_nil)))) pva_nil)) (pve_one (pve_call (bs := [true, true]) C_meets (hr.mono (by decide)) rfl pass0 (pva_cons (pve_var 1 (pv 1)) (pva_cons (pve_var 3 (pv 3)) pva_nil))))))))) pvb_nil)
    (pvb_cons (pvs_if (PVW.t (pvw_and (pvt_cmp (opv_eq (un_of hr)) (pve_bi (cv_len) rfl mz_len (by decide +kernel) (pva_cons (pve_var 2 (pv 2)) pva_nil)) pve_int (nomark _)) (pvw_and1 (pvt_cmp (opv_eq (un_of hr)) (pve_ix (pve_var 2 (pv 2)) pve_int) pve_str (nomark _))))) (pvb_one (pvs_ret (pn := [0, 1, 2]) (pve_call (bs := [true, false, false]) C_judge_ring (hr.mono (by decide)) rfl pass0 (pva_cons (pve_var 1 (pv 1)) (pva_cons (pve_ix (pve_var 2 (pv 2)) pve_int) (pva_cons (pve_ix (pve_var 2 (pv 2)) pve_int) pva_nil)))))) pvb_nil)
    (pvb_one (pvs_ret (pn := [0, 1, 2]) pve_bl))))
abbrev s_L_begin : Stmt := topS 11
abbrev N_L_begin : List Str := ["script", "cell"]
theorem sc_L_begin : FnScope N_L_begin ["script"] (defScope s_L_begin) := ⟨rfl, rfl, rfl, by decide +kernel, rfl, by decide +kernel, by decide +kernel⟩
theorem ok_L_begin {P : Program} {w : World} {K : PySem.W.Frag} {mg : Str → Option Value} {base : Heap} (mz_int : mg "int" = none) {fa : Addr} {fd : FuncData} (F : Fun K "_law_begin" "_law_begin" s_L_begin fa fd) :
    FnOk P w K mg base CX0 1 fa fd ["script"] (spD K 1 m_L_begin) := by
  unfold m_L_begin
  exact def_ok (N := N_L_begin) (m := 1) (k := 0) (bs := [true]) F sc_L_begin rfl rfl fun cdv A outer s H E hr =>
    (pvb_one (pvs_ret (pn := [0]) (pve_lst (pva_cons (pve_lc (pn := []) (own := [("cell", 1)]) (sl := [1]) rfl sc_L_begin.nd (pvi_fz (pve_sl (pve_var 0 (pv 0)) pvo_none (pvo_some pve_int))) (blk_by N_L_begin (defScope s_L_begin) (by decide +kernel)) (by decide) (fun _ _ _ _ _ => aName (sl := [1]) sc_L_begin.nd) (fun _ _ _ _ _ => pvts_nil) (fun _ _ _ _ _ => (pve_ty (cv_int) rfl mz_int (by decide +kernel) (pva_cons (pve_var 1 (pv 1)) pva_nil)))) (pva_cons pve_int (pva_cons pve_int (pva_cons pve_int pva_nil)))))))
abbrev s_L_draw : Stmt := topS 12
abbrev N_L_draw : List Str := ["d", "many", "found", "cell", "size"]
theorem sc_L_draw : FnScope N_L_draw ["d", "many"] (defScope s_L_draw) := ⟨rfl, rfl, rfl, by decide +kernel, rfl, by decide +kernel, by decide +kernel⟩
theorem ok_L_draw {P : Program} {w : World} {K : PySem.W.Frag} {mg : Str → Option Value} {base : Heap} (mz_int : mg "int" = none) (mz_len : mg "len" = none) (mz_abs : mg "abs" = none) {fa : Addr} {fd : FuncData} (F : Fun K "_law_draw" "_law_draw" s_L_draw fa fd) :
    FnOk P w K mg base CX0 1 fa fd ["d", "many"] (spD K 2 m_L_draw) := by
  unfold m_L_draw
  exact def_ok (N := N_L_draw) (m := 3) (k := 0) (bs := [true, true]) F sc_L_draw rfl rfl fun cdv A outer s H E hr =>
    (pvb_cons (pvs_if (pvt_cmp (opv_gt) (pve_ix (pve_var 0 (pv 0)) pve_int) pve_int (nomark _)) (pvb_cons (aSet (i := 2) sc_L_draw.nd (pve_ix (pve_var 0 (pv 0)) pve_int))
    (pvb_cons (pvs_setIx (i := 0) (pve_op opv_div (pve_var 2 (pv 2)) (pve_var 1 (pv 1))) pve_int (pv 0))
    (pvb_one (pvs_ret (pn := [0, 1]) (pve_op opv_mod (pve_ty (cv_int) rfl mz_int (by decide +kernel) (pva_cons (pve_var 2 (pv 2)) pva_nil)) (pve_var 1 (pv 1))))))) pvb_nil)
    (pvb_cons (aSet (i := 3) sc_L_draw.nd (pve_if (pvt_cmp (opv_lt) (pve_ix (pve_var 0 (pv 0)) pve_int) (pve_bi (cv_len) rfl mz_len (by decide +kernel) (pva_cons (pve_ix (pve_var 0 (pv 0)) pve_int) pva_nil)) (nomark _)) (pve_ix (pve_ix (pve_var 0 (pv 0)) pve_int) (pve_ix (pve_var 0 (pv 0)) pve_int)) pve_int))
    (pvb_cons (aSet (i := 4) sc_L_draw.nd (pve_op opv_add (pve_op opv_mul pve_int (pve_bi (cv_abs) rfl mz_abs (by decide +kernel) (pva_cons (pve_var 3 (pv 3)) pva_nil))) (pve_ty (cv_int) rfl mz_int (by decide +kernel) (pva_cons (pve_cmp (opv_lt) (pve_var 3 (pv 3)) pve_int (nomark _)) pva_nil))))
    (pvb_cons (pvs_augIx (i := 0) iopv_add pve_int pve_int (pv 0))
    (pvb_cons (pvs_if (pvt_cmp (opv_ge) (pve_var 4 (pv 4)) (pve_op opv_mul pve_int (pve_op opv_pow pve_int pve_int)) (nomark _)) (pvb_cons (aSet (i := 2) sc_L_draw.nd (pve_op opv_mod (pve_ty (cv_int) rfl mz_int (by decide +kernel) (pva_cons (pve_op opv_div (pve_var 4 (pv 4)) pve_int) pva_nil)) (pve_op opv_shl pve_int pve_int)))
    (pvb_cons (pvs_setIx (i := 0) (pve_op opv_div (pve_var 2 (pv 2)) (pve_var 1 (pv 1))) pve_int (pv 0))
    (pvb_one (pvs_ret (pn := [0, 1]) (pve_op opv_mod (pve_ty (cv_int) rfl mz_int (by decide +kernel) (pva_cons (pve_var 2 (pv 2)) pva_nil)) (pve_var 1 (pv 1))))))) pvb_nil)
    (pvb_cons (pvs_setIx (i := 0) (pve_op opv_mod (pve_ty (cv_int) rfl mz_int (by decide +kernel) (pva_cons (pve_op opv_add (pve_op opv_add (pve_op opv_add (pve_op opv_mul (pve_ix (pve_var 0 (pv 0)) pve_int) pve_int) (pve_op opv_mul (pve_op opv_mod (pve_ty (cv_int) rfl mz_int (by decide +kernel) (pva_cons (pve_var 4 (pv 4)) pva_nil)) pve_int) pve_int)) (pve_op opv_mul (pve_ix (pve_var 0 (pv 0)) pve_int) pve_int)) pve_int) pva_nil)) pve_int) pve_int (pv 0))
    (pvb_one (pvs_ret (pn := [0, 1]) (pve_op opv_mod (pve_ty (cv_int) rfl mz_int (by decide +kernel) (pva_cons (pve_op opv_div (pve_ix (pve_var 0 (pv 0)) pve_int) pve_int) pva_nil)) (pve_var 1 (pv 1)))))))))))
abbrev s_L_pick : Stmt := topS 13
abbrev N_L_pick : List Str := ["d", "row"]
theorem sc_L_pick : FnScope N_L_pick ["d", "row"] (defScope s_L_pick) := ⟨rfl, rfl, rfl, by decide +kernel, rfl, by decide +kernel, by decide +kernel⟩
theorem ok_L_pick {P : Program} {w : World} {K : PySem.W.Frag} {mg : Str → Option Value} {base : Heap} (C_L_draw : Callee P w K mg base 1 "_law_draw" 2 m_L_draw) (mz_len : mg "len" = none) {fa : Addr} {fd : FuncData} (F : Fun K "_law_pick" "_law_pick" s_L_pick fa fd) :
    FnOk P w K mg base CX0 2 fa fd ["d", "row"] (spD K 2 m_L_pick) := by
  unfold m_L_pick
  exact def_ok (N := N_L_pick) (m := 0) (k := 1) (bs := [true, true]) F sc_L_pick rfl rfl fun cdv A outer s H E hr =>
    (pvb_one (pvs_ret (pn := [0, 1]) (pve_ix (pve_var 1 (pv 1)) (pve_call (bs := [true, false]) C_L_draw (hr.mono (by decide)) rfl pass0 (pva_cons (pve_var 0 (pv 0)) (pva_cons (pve_bi (cv_len) rfl mz_len (by decide +kernel) (pva_cons (pve_var 1 (pv 1)) pva_nil)) pva_nil))))))
abbrev s_L_pop : Stmt := topS 14
abbrev N_L_pop : List Str := ["d", "row"]
theorem sc_L_pop : FnScope N_L_pop ["d", "row"] (defScope s_L_pop) := ⟨rfl, rfl, rfl, by decide +kernel, rfl, by decide +kernel, by decide +kernel⟩
theorem ok_L_pop {P : Program} {w : World} {K : PySem.W.Frag} {mg : Str → Option Value} {base : Heap} (C_L_draw : Callee P w K mg base 1 "_law_draw" 2 m_L_draw) (mz_len : mg "len" = none) {fa : Addr} {fd : FuncData} (F : Fun K "_law_pop" "_law_pop" s_L_pop fa fd) :
    FnOk P w K mg base CX0 2 fa fd ["d", "row"] (spD K 2 m_L_pop) := by
  unfold m_L_pop
  exact def_ok (N := N_L_pop) (m := 0) (k := 1) (bs := [true, true]) F sc_L_pop rfl rfl fun cdv A outer s H E hr =>
    (pvb_one (pvs_ret (pn := [0, 1]) (pve_mut (i := 1) PySem.F.slot_list_pop PySem.F.type_list_pop mv_pop (pv 1) (pva_cons (pve_call (bs := [true, false]) C_L_draw (hr.mono (by decide)) rfl pass0 (pva_cons (pve_var 0 (pv 0)) (pva_cons (pve_bi (cv_len) rfl mz_len (by decide +kernel) (pva_cons (pve_var 1 (pv 1)) pva_nil)) pva_nil))) pva_nil))))
abbrev s_L_shuffled : Stmt := topS 15
abbrev N_L_shuffled : List Str := ["d", "row", "left", "k"]
theorem sc_L_shuffled : FnScope N_L_shuffled ["d", "row"] (defScope s_L_shuffled) := ⟨rfl, rfl, rfl, by decide +kernel, rfl, by decide +kernel, by decide +kernel⟩
theorem ok_L_shuffled {P : Program} {w : World} {K : PySem.W.Frag} {mg : Str → Option Value} {base : Heap} (C_L_draw : Callee P w K mg base 1 "_law_draw" 2 m_L_draw) (mz_list : mg "list" = none) (mz_len : mg "len" = none) (mz_range : mg "range" = none) {fa : Addr} {fd : FuncData} (F : Fun K "_law_shuffled" "_law_shuffled" s_L_shuffled fa fd) :
    FnOk P w K mg base CX0 2 fa fd ["d", "row"] (spD K 2 m_L_shuffled) := by
  unfold m_L_shuffled
  exact def_ok (N := N_L_shuffled) (m := 2) (k := 1) (bs := [true, true]) F sc_L_shuffled rfl rfl fun cdv A outer s H E hr =>
    (pvb_cons (aSet (i := 2) sc_L_shuffled.nd (pve_ty (cv_list) rfl mz_list (by decide +kernel) (pva_cons (pve_var 1 (pv 1)) pva_nil)))
    (pvb_one (pvs_ret (pn := [0, 1]) (pve_lc (pn := []) (own := [("k", 3)]) (sl := [3]) rfl sc_L_shuffled.nd (pvi_range1 rfl mz_range (pva_cons (pve_bi (cv_len) rfl mz_len (by decide +kernel) (pva_cons (pve_var 1 (pv 1)) pva_nil)) pva_nil)) (blk_by N_L_shuffled (defScope s_L_shuffled) (by decide +kernel)) (by decide) (fun _ _ _ _ _ => aName (sl := [3]) sc_L_shuffled.nd) (fun _ _ _ _ _ => pvts_nil) (fun _ _ _ _ _ => (pve_mut (i := 2) PySem.F.slot_list_pop PySem.F.type_list_pop mv_pop (pv 2) (pva_cons (pve_call (bs := [true, false]) C_L_draw (hr.mono (by decide)) rfl pass0 (pva_cons (pve_var 0 (pv 0)) (pva_cons (pve_bi (cv_len) rfl mz_len (by decide +kernel) (pva_cons (pve_var 2 (pv 2)) pva_nil)) pva_nil))) pva_nil)))))))
abbrev s_L_holds : Stmt := topS 16
abbrev N_L_holds : List Str := ["left", "op", "right"]
theorem sc_L_holds : FnScope N_L_holds ["left", "op", "right"] (defScope s_L_holds) := ⟨rfl, rfl, rfl, by decide +kernel, rfl, by decide +kernel, by decide +kernel⟩
theorem ok_L_holds {P : Program} {w : World} {K : PySem.W.Frag} {mg : Str → Option Value} {base : Heap} {fa : Addr} {fd : FuncData} (F : Fun K "_law_holds" "_law_holds" s_L_holds fa fd) :
    FnOk P w K mg base CX0 1 fa fd ["left", "op", "right"] (spD K 3 m_L_holds) := by
  unfold m_L_holds
  exact def_ok (N := N_L_holds) (m := 0) (k := 0) (bs := [true, true, true]) F sc_L_holds rfl rfl fun cdv A outer s H E hr =>
    (pvb_cons (pvs_if (pvt_cmp (opv_eq (un_of hr)) (pve_var 1 (pv 1)) pve_str (nomark _)) (pvb_one (pvs_ret (pn := [0, 1, 2]) (pve_cmp (opv_eq (un_of hr)) (pve_var 0 (pv 0)) (pve_var 2 (pv 2)) (nomark _)))) pvb_nil)
    (pvb_cons (pvs_if (pvt_cmp (opv_eq (un_of hr)) (pve_var 1 (pv 1)) pve_str (nomark _)) (pvb_one (pvs_ret (pn := [0, 1, 2]) (pve_cmp (opv_ne (un_of hr)) (pve_var 0 (pv 0)) (pve_var 2 (pv 2)) (nomark _)))) pvb_nil)
    (pvb_one (pvs_ret (pn := [0, 1, 2]) (pve_or (pve_cmp (opv_lt) (pve_var 0 (pv 0)) (pve_var 2 (pv 2)) (nomark _)) (pve_one (pve_and (pve_cmp (opv_eq (un_of hr)) (pve_var 1 (pv 1)) pve_str (nomark _)) (pve_one (pve_cmp (opv_eq (un_of hr)) (pve_var 0 (pv 0)) (pve_var 2 (pv 2)) (nomark _))))))))))
abbrev s_L_steps : Stmt := topS 17
abbrev N_L_steps : List Str := ["rules", "x", "op", "y"]
theorem sc_L_steps : FnScope N_L_steps ["rules"] (defScope s_L_steps) := ⟨rfl, rfl, rfl, by decide +kernel, rfl, by decide +kernel, by decide +kernel⟩
theorem ok_L_steps {P : Program} {w : World} {K : PySem.W.Frag} {mg : Str → Option Value} {base : Heap} {fa : Addr} {fd : FuncData} (F : Fun K "_law_steps" "_law_steps" s_L_steps fa fd) :
    FnOk P w K mg base CX0 1 fa fd ["rules"] (spD K 1 m_L_steps) := by
  unfold m_L_steps
  exact def_ok (N := N_L_steps) (m := 3) (k := 0) (bs := [true]) F sc_L_steps rfl rfl fun cdv A outer s H E hr =>
    (pvb_one (pvs_ret (pn := [0]) (pve_op opv_add (pve_lc (pn := [0]) (own := [("x", 1), ("op", 2), ("y", 3)]) (sl := [1, 2, 3]) rfl sc_L_steps.nd (pvi_slot (pv 0) (by decide)) (blk_by N_L_steps (defScope s_L_steps) (by decide +kernel)) (by decide) (fun _ _ _ _ _ => pvg_tup rfl (pvgs_cons (aName (sl := [1, 2, 3]) sc_L_steps.nd) (pvgs_cons (aName (sl := [1, 2, 3]) sc_L_steps.nd) (pvgs_cons (aName (sl := [1, 2, 3]) sc_L_steps.nd) pvgs_nil)))) (fun _ _ _ _ _ => pvts_one (pvt_cmp (opv_ne (un_of hr)) (pve_var 2 (pv 2)) pve_str (nomark _))) (fun _ _ _ _ _ => (pve_tup (pva_cons (pve_var 1 (pv 1)) (pva_cons (pve_var 3 (pv 3)) pva_nil))))) (pve_lc (pn := [0]) (own := [("x", 1), ("op", 2), ("y", 3)]) (sl := [1, 2, 3]) rfl sc_L_steps.nd (pvi_slot (pv 0) (by decide)) (blk_by N_L_steps (defScope s_L_steps) (by decide +kernel)) (by decide) (fun _ _ _ _ _ => pvg_tup rfl (pvgs_cons (aName (sl := [1, 2, 3]) sc_L_steps.nd) (pvgs_cons (aName (sl := [1, 2, 3]) sc_L_steps.nd) (pvgs_cons (aName (sl := [1, 2, 3]) sc_L_steps.nd) pvgs_nil)))) (fun _ _ _ _ _ => pvts_one (pvt_cmp (opv_eq (un_of hr)) (pve_var 2 (pv 2)) pve_str (nomark _))) (fun _ _ _ _ _ => (pve_tup (pva_cons (pve_var 3 (pv 3)) (pva_cons (pve_var 1 (pv 1)) pva_nil))))))))
abbrev s_L_apart : Stmt := topS 18
abbrev N_L_apart : List Str := ["rules", "x", "op", "y"]
theorem sc_L_apart : FnScope N_L_apart ["rules"] (defScope s_L_apart) := ⟨rfl, rfl, rfl, by decide +kernel, rfl, by decide +kernel, by decide +kernel⟩
theorem ok_L_apart {P : Program} {w : World} {K : PySem.W.Frag} {mg : Str → Option Value} {base : Heap} {fa : Addr} {fd : FuncData} (F : Fun K "_law_apart" "_law_apart" s_L_apart fa fd) :
    FnOk P w K mg base CX0 1 fa fd ["rules"] (spD K 1 m_L_apart) := by
  unfold m_L_apart
  exact def_ok (N := N_L_apart) (m := 3) (k := 0) (bs := [true]) F sc_L_apart rfl rfl fun cdv A outer s H E hr =>
    (pvb_one (pvs_ret (pn := [0]) (pve_lc (pn := [0]) (own := [("x", 1), ("op", 2), ("y", 3)]) (sl := [1, 2, 3]) rfl sc_L_apart.nd (pvi_slot (pv 0) (by decide)) (blk_by N_L_apart (defScope s_L_apart) (by decide +kernel)) (by decide) (fun _ _ _ _ _ => pvg_tup rfl (pvgs_cons (aName (sl := [1, 2, 3]) sc_L_apart.nd) (pvgs_cons (aName (sl := [1, 2, 3]) sc_L_apart.nd) (pvgs_cons (aName (sl := [1, 2, 3]) sc_L_apart.nd) pvgs_nil)))) (fun _ _ _ _ _ => pvts_one (pvt_cmp (opv_in (un_of hr)) (pve_var 2 (pv 2)) (pve_tup (pva_cons pve_str (pva_cons pve_str pva_nil))) (by with_unfolding_all rfl))) (fun _ _ _ _ _ => (pve_tup (pva_cons (pve_var 1 (pv 1)) (pva_cons (pve_var 3 (pv 3)) pva_nil)))))))
abbrev s_L_meets : Stmt := topS 19
abbrev N_L_meets : List Str := ["rules", "numbers", "x", "op", "y"]
theorem sc_L_meets : FnScope N_L_meets ["rules", "numbers"] (defScope s_L_meets) := ⟨rfl, rfl, rfl, by decide +kernel, rfl, by decide +kernel, by decide +kernel⟩
theorem ok_L_meets {P : Program} {w : World} {K : PySem.W.Frag} {mg : Str → Option Value} {base : Heap} (C_L_holds : Callee P w K mg base 1 "_law_holds" 3 m_L_holds) (mz_all : mg "all" = none) {fa : Addr} {fd : FuncData} (F : Fun K "_law_meets" "_law_meets" s_L_meets fa fd) :
    FnOk P w K mg base CX0 2 fa fd ["rules", "numbers"] (spD K 2 m_L_meets) := by
  unfold m_L_meets
  exact def_ok (N := N_L_meets) (m := 3) (k := 1) (bs := [true, true]) F sc_L_meets rfl rfl fun cdv A outer s H E hr =>
    (pvb_one (pvs_ret (pn := [0, 1]) (pve_bi (cv_all rfl) rfl mz_all (by decide +kernel) (pva_cons (pve_lc (pn := [0]) (own := [("x", 2), ("op", 3), ("y", 4)]) (sl := [2, 3, 4]) rfl sc_L_meets.nd (pvi_slot (pv 0) (by decide)) (blk_by N_L_meets (defScope s_L_meets) (by decide +kernel)) (by decide) (fun _ _ _ _ _ => pvg_tup rfl (pvgs_cons (aName (sl := [2, 3, 4]) sc_L_meets.nd) (pvgs_cons (aName (sl := [2, 3, 4]) sc_L_meets.nd) (pvgs_cons (aName (sl := [2, 3, 4]) sc_L_meets.nd) pvgs_nil)))) (fun _ _ _ _ _ => pvts_nil) (fun _ _ _ _ _ => (pve_call (bs := [false, true, false]) C_L_holds (hr.mono (by decide)) rfl pass0 (pva_cons (pve_ix (pve_var 1 (pv 1)) (pve_var 2 (pv 2))) (pva_cons (pve_var 3 (pv 3)) (pva_cons (pve_ix (pve_var 1 (pv 1)) (pve_var 4 (pv 4))) pva_nil)))))) pva_nil))))
abbrev s_L_drawn_rules : Stmt := topS 20
abbrev N_L_drawn_rules : List Str := ["d", "many", "length", "found", "k", "left", "x"]
theorem sc_L_drawn_rules : FnScope N_L_drawn_rules ["d", "many", "length"] (defScope s_L_drawn_rules) := ⟨rfl, rfl, rfl, by decide +kernel, rfl, by decide +kernel, by decide +kernel⟩
theorem ok_L_drawn_rules {P : Program} {w : World} {K : PySem.W.Frag} {mg : Str → Option Value} {base : Heap} (C_L_pop : Callee P w K mg base 2 "_law_pop" 2 m_L_pop) (C_L_pick : Callee P w K mg base 2 "_law_pick" 2 m_L_pick) (mz_range : mg "range" = none) (mz_list : mg "list" = none) (mz_tuple : mg "tuple" = none) {fa : Addr} {fd : FuncData} (F : Fun K "_law_drawn_rules" "_law_drawn_rules" s_L_drawn_rules fa fd) :
    FnOk P w K mg base CX0 3 fa fd ["d", "many", "length"] (spD K 3 m_L_drawn_rules) := by
  unfold m_L_drawn_rules
  exact def_ok (N := N_L_drawn_rules) (m := 4) (k := 2) (bs := [true, true, true]) F sc_L_drawn_rules rfl rfl fun cdv A outer s H E hr =>
    (pvb_cons (aSet (i := 3) sc_L_drawn_rules.nd (pve_lst pva_nil))
    (pvb_cons (pvs_for (pn' := [0, 1, 2]) (sl := [4]) rfl PassesOwn.never (pvi_range1 rfl mz_range (pva_cons (pve_var 2 (pv 2)) pva_nil)) (aName (sl := [4]) sc_L_drawn_rules.nd) (pvb_cons (aSet (i := 5) sc_L_drawn_rules.nd (pve_listRg rfl rfl mz_list (pvr_1 rfl mz_range (pve_var 1 (pv 1)))))
    (pvb_cons (aSet (i := 6) sc_L_drawn_rules.nd (pve_call (bs := [true, true]) C_L_pop (hr.mono (by decide)) rfl pass0 (pva_cons (pve_var 0 (pv 0)) (pva_cons (pve_var 5 (pv 5)) pva_nil))))
    (pvb_one (pvs_expr (pve_mut (i := 3) PySem.F.slot_list_append PySem.F.type_list_append mv_app (pv 3) (pva_cons (pve_tup (pva_cons (pve_var 6 (pv 6)) (pva_cons (pve_call (bs := [true, false]) C_L_pick (hr.mono (by decide)) rfl pass0 (pva_cons (pve_var 0 (pv 0)) (pva_cons (pve_lst (pva_cons pve_str (pva_cons pve_str (pva_cons pve_str (pva_cons pve_str (pva_cons pve_str (pva_cons pve_str pva_nil))))))) pva_nil))) (pva_cons (pve_call (bs := [true, true]) C_L_pick (hr.mono (by decide)) rfl pass0 (pva_cons (pve_var 0 (pv 0)) (pva_cons (pve_var 5 (pv 5)) pva_nil))) pva_nil)))) pva_nil)))))) (by decide) (by decide))
    (pvb_one (pvs_ret (pn := [0, 1, 2]) (pve_ty (cv_tuple) rfl mz_tuple (by decide +kernel) (pva_cons (pve_var 3 (pv 3)) pva_nil))))))
abbrev s_L_is_ring : Stmt := topS 21
abbrev N_L_is_ring : List Str := ["rules", "walk", "pair", "steps", "at", "apart"]
theorem sc_L_is_ring : FnScope N_L_is_ring ["rules", "walk", "pair"] (defScope s_L_is_ring) := ⟨rfl, rfl, rfl, by decide +kernel, rfl, by decide +kernel, by decide +kernel⟩
theorem ok_L_is_ring {P : Program} {w : World} {K : PySem.W.Frag} {mg : Str → Option Value} {base : Heap} (C_L_steps : Callee P w K mg base 1 "_law_steps" 1 m_L_steps) (C_L_apart : Callee P w K mg base 1 "_law_apart" 1 m_L_apart) (mz_len : mg "len" = none) (mz_range : mg "range" = none) {fa : Addr} {fd : FuncData} (F : Fun K "_law_is_ring" "_law_is_ring" s_L_is_ring fa fd) :
    FnOk P w K mg base CX0 2 fa fd ["rules", "walk", "pair"] (spD K 3 m_L_is_ring) := by
  unfold m_L_is_ring
  exact def_ok (N := N_L_is_ring) (m := 3) (k := 1) (bs := [true, true, true]) F sc_L_is_ring rfl rfl fun cdv A outer s H E hr =>
    (pvb_cons (pvs_if (PVW.t (pvw_or (pvt_cmp (opv_eq (un_of hr)) (pve_bi (cv_len) rfl mz_len (by decide +kernel) (pva_cons (pve_var 1 (pv 1)) pva_nil)) pve_int (nomark _)) (pvw_or1 (pvt_cmp (opv_ne (un_of hr)) (pve_bi (cv_len) rfl mz_len (by decide +kernel) (pva_cons (pve_var 2 (pv 2)) pva_nil)) pve_int (nomark _))))) (pvb_one (pvs_ret (pn := [0, 1, 2]) pve_bl)) pvb_nil)
    (pvb_cons (aSet (i := 3) sc_L_is_ring.nd (pve_call (bs := [true]) C_L_steps (hr.mono (by decide)) rfl pass0 (pva_cons (pve_var 0 (pv 0)) pva_nil)))
    (pvb_cons (pvs_for (pn' := [0, 1, 2]) (sl := [4]) rfl PassesOwn.never (pvi_range1 rfl mz_range (pva_cons (pve_op opv_sub (pve_bi (cv_len) rfl mz_len (by decide +kernel) (pva_cons (pve_var 1 (pv 1)) pva_nil)) pve_int) pva_nil)) (aName (sl := [4]) sc_L_is_ring.nd) (pvb_one (pvs_if (pvt_cmp (opv_notIn (un_of hr)) (pve_tup (pva_cons (pve_ix (pve_var 1 (pv 1)) (pve_var 4 (pv 4))) (pva_cons (pve_ix (pve_var 1 (pv 1)) (pve_op opv_add (pve_var 4 (pv 4)) pve_int)) pva_nil))) (pve_var 3 (pv 3)) (by with_unfolding_all rfl)) (pvb_one (pvs_ret (pn := [0, 1, 2]) pve_bl)) pvb_nil)) (by decide) (by decide))
    (pvb_cons (pvs_if (PVW.t (pvw_or (pvt_cmp (opv_ne (un_of hr)) (pve_ix (pve_var 1 (pv 1)) pve_int) (pve_ix (pve_var 1 (pv 1)) (pve_op opv_sub (pve_bi (cv_len) rfl mz_len (by decide +kernel) (pva_cons (pve_var 1 (pv 1)) pva_nil)) pve_int)) (nomark _)) (pvw_or (pvt_cmp (opv_notIn (un_of hr)) (pve_ix (pve_var 2 (pv 2)) pve_int) (pve_var 1 (pv 1)) (by with_unfolding_all rfl)) (pvw_or1 (pvt_cmp (opv_notIn (un_of hr)) (pve_ix (pve_var 2 (pv 2)) pve_int) (pve_var 1 (pv 1)) (by with_unfolding_all rfl)))))) (pvb_one (pvs_ret (pn := [0, 1, 2]) pve_bl)) pvb_nil)
    (pvb_cons (aSet (i := 5) sc_L_is_ring.nd (pve_call (bs := [true]) C_L_apart (hr.mono (by decide)) rfl pass0 (pva_cons (pve_var 0 (pv 0)) pva_nil)))
    (pvb_one (pvs_ret (pn := [0, 1, 2]) (pve_or (pve_cmp (opv_in (un_of hr)) (pve_tup (pva_cons (pve_ix (pve_var 2 (pv 2)) pve_int) (pva_cons (pve_ix (pve_var 2 (pv 2)) pve_int) pva_nil))) (pve_var 5 (pv 5)) (by with_unfolding_all rfl)) (pve_one (pve_cmp (opv_in (un_of hr)) (pve_tup (pva_cons (pve_ix (pve_var 2 (pv 2)) pve_int) (pva_cons (pve_ix (pve_var 2 (pv 2)) pve_int) pva_nil))) (pve_var 5 (pv 5)) (by with_unfolding_all rfl)))))))))))
abbrev s_L_takes : Stmt := topS 22
abbrev N_L_takes : List Str := ["many", "rules", "paper"]
theorem sc_L_takes : FnScope N_L_takes ["many", "rules", "paper"] (defScope s_L_takes) := ⟨rfl, rfl, rfl, by decide +kernel, rfl, by decide +kernel, by decide +kernel⟩
theorem ok_L_takes {P : Program} {w : World} {K : PySem.W.Frag} {mg : Str → Option Value} {base : Heap} (C_L_meets : Callee P w K mg base 2 "_law_meets" 2 m_L_meets) (C_L_is_ring : Callee P w K mg base 2 "_law_is_ring" 3 m_L_is_ring) (mz_len : mg "len" = none) {fa : Addr} {fd : FuncData} (F : Fun K "_law_takes" "_law_takes" s_L_takes fa fd) :
    FnOk P w K mg base CX0 3 fa fd ["many", "rules", "paper"] (spD K 3 m_L_takes) := by
  unfold m_L_takes
  exact def_ok (N := N_L_takes) (m := 0) (k := 2) (bs := [true, true, true]) F sc_L_takes rfl rfl fun cdv A outer s H E hr =>
    (pvb_cons (pvs_if (PVW.t (pvw_and (pvt_cmp (opv_eq (un_of hr)) (pve_bi (cv_len) rfl mz_len (by decide +kernel) (pva_cons (pve_var 2 (pv 2)) pva_nil)) pve_int (nomark _)) (pvw_and1 (pvt_cmp (opv_eq (un_of hr)) (pve_ix (pve_var 2 (pv 2)) pve_int) pve_str (nomark _))))) (pvb_one (pvs_ret (pn := [0, 1, 2]) (pve_and (pve_cmp (opv_eq (un_of hr)) (pve_bi (cv_len) rfl mz_len (by decide +kernel) (pva_cons (pve_ix (pve_var 2 (pv 2)) pve_int) pva_nil)) (pve_var 0 (pv 0)) (nomark _)) (pve_one (pve_call (bs := [true, false]) C_L_meets (hr.mono (by decide)) rfl pass0 (pva_cons (pve_var 1 (pv 1)) (pva_cons (pve_ix (pve_var 2 (pv 2)) pve_int) pva_nil))))))) pvb_nil)
    (pvb_cons (pvs_if (PVW.t (pvw_and (pvt_cmp (opv_eq (un_of hr)) (pve_bi (cv_len) rfl mz_len (by decide +kernel) (pva_cons (pve_var 2 (pv 2)) pva_nil)) pve_int (nomark _)) (pvw_and1 (pvt_cmp (opv_eq (un_of hr)) (pve_ix (pve_var 2 (pv 2)) pve_int) pve_str (nomark _))))) (pvb_one (pvs_ret (pn := [0, 1, 2]) (pve_call (bs := [true, false, false]) C_L_is_ring (hr.mono (by decide)) rfl pass0 (pva_cons (pve_var 1 (pv 1)) (pva_cons (pve_ix (pve_var 2 (pv 2)) pve_int) (pva_cons (pve_ix (pve_var 2 (pv 2)) pve_int) pva_nil)))))) pvb_nil)
    (pvb_one (pvs_ret (pn := [0, 1, 2]) pve_bl))))
abbrev s_L_is_answer : Stmt := topS 23
abbrev N_L_is_answer : List Str := ["many", "rules", "paper", "found"]
theorem sc_L_is_answer : FnScope N_L_is_answer ["many", "rules", "paper"] (defScope s_L_is_answer) := ⟨rfl, rfl, rfl, by decide +kernel, rfl, by decide +kernel, by decide +kernel⟩
theorem ok_L_is_answer {P : Program} {w : World} {K : PySem.W.Frag} {mg : Str → Option Value} {base : Heap} (C_judge_meeting : Callee P w K mg base 3 "judge_meeting" 3 m_judge_meeting) (C_L_takes : Callee P w K mg base 3 "_law_takes" 3 m_L_takes) (mz_isinstance : mg "isinstance" = none) (mz_bool : mg "bool" = none) {fa : Addr} {fd : FuncData} (F : Fun K "_law_is_answer" "_law_is_answer" s_L_is_answer fa fd) :
    FnOk P w K mg base CX0 4 fa fd ["many", "rules", "paper"] (spD K 3 m_L_is_answer) := by
  unfold m_L_is_answer
  exact def_ok (N := N_L_is_answer) (m := 1) (k := 3) (bs := [true, true, true]) F sc_L_is_answer rfl rfl fun cdv A outer s H E hr =>
    (pvb_cons (aSet (i := 3) sc_L_is_answer.nd (pve_call (bs := [true, true, true]) C_judge_meeting (hr.mono (by decide)) rfl pass0 (pva_cons (pve_var 0 (pv 0)) (pva_cons (pve_var 1 (pv 1)) (pva_cons (pve_var 2 (pv 2)) pva_nil)))))
    (pvb_one (pvs_ret (pn := [0, 1, 2]) (pve_and (pve_isi rfl mz_isinstance (pve_var 3 (pv 3)) (pe_bltn rfl mz_bool (by decide +kernel) rfl) (by decide +kernel)) (pve_one (pve_cmp (opv_eq (un_of hr)) (pve_var 3 (pv 3)) (pve_call (bs := [true, true, true]) C_L_takes (hr.mono (by decide)) rfl pass0 (pva_cons (pve_var 0 (pv 0)) (pva_cons (pve_var 1 (pv 1)) (pva_cons (pve_var 2 (pv 2)) pva_nil)))) (nomark _)))))))
abbrev s_L_number : Stmt := topS 24
abbrev N_L_number : List Str := ["d"]
theorem sc_L_number : FnScope N_L_number ["d"] (defScope s_L_number) := ⟨rfl, rfl, rfl, by decide +kernel, rfl, by decide +kernel, by decide +kernel⟩
theorem ok_L_number {P : Program} {w : World} {K : PySem.W.Frag} {mg : Str → Option Value} {base : Heap} (C_L_pick : Callee P w K mg base 2 "_law_pick" 2 m_L_pick) {fa : Addr} {fd : FuncData} (F : Fun K "_law_number" "_law_number" s_L_number fa fd) :
    FnOk P w K mg base CX0 3 fa fd ["d"] (spD K 1 m_L_number) := by
  unfold m_L_number
  exact def_ok (N := N_L_number) (m := 0) (k := 2) (bs := [true]) F sc_L_number rfl rfl fun cdv A outer s H E hr =>
    (pvb_one (pvs_ret (pn := [0]) (pve_call (bs := [true, false]) C_L_pick (hr.mono (by decide)) rfl pass0 (pva_cons (pve_var 0 (pv 0)) (pva_cons (pve_lst (pva_cons pve_int (pva_cons pve_int (pva_cons pve_int (pva_cons pve_int (pva_cons pve_int (pva_cons pve_int (pva_cons (pve_neg pve_int) (pva_cons (pve_neg pve_int) (pva_cons pve_int (pva_cons (pve_op opv_pow pve_int pve_int) (pva_cons (pve_op opv_sub (pve_op opv_pow pve_int pve_int) pve_int) (pva_cons (pve_neg (pve_op opv_pow pve_int pve_int)) pva_nil))))))))))))) pva_nil)))))
abbrev s_L_true_rules : Stmt := topS 25
abbrev N_L_true_rules : List Str := ["d", "given", "length", "found", "k", "left", "x", "y", "op"]
theorem sc_L_true_rules : FnScope N_L_true_rules ["d", "given", "length"] (defScope s_L_true_rules) := ⟨rfl, rfl, rfl, by decide +kernel, rfl, by decide +kernel, by decide +kernel⟩
theorem ok_L_true_rules {P : Program} {w : World} {K : PySem.W.Frag} {mg : Str → Option Value} {base : Heap} (C_L_pop : Callee P w K mg base 2 "_law_pop" 2 m_L_pop) (C_L_pick : Callee P w K mg base 2 "_law_pick" 2 m_L_pick) (C_L_draw : Callee P w K mg base 1 "_law_draw" 2 m_L_draw) (mz_range : mg "range" = none) (mz_len : mg "len" = none) (mz_list : mg "list" = none) (mz_tuple : mg "tuple" = none) {fa : Addr} {fd : FuncData} (F : Fun K "_law_true_rules" "_law_true_rules" s_L_true_rules fa fd) :
    FnOk P w K mg base CX0 3 fa fd ["d", "given", "length"] (spD K 3 m_L_true_rules) := by
  unfold m_L_true_rules
  exact def_ok (N := N_L_true_rules) (m := 6) (k := 2) (bs := [true, true, true]) F sc_L_true_rules rfl rfl fun cdv A outer s H E hr =>
    (pvb_cons (aSet (i := 3) sc_L_true_rules.nd (pve_lst pva_nil))
    (pvb_cons (pvs_for (pn' := [0, 1, 2]) (sl := [4]) rfl PassesOwn.never (pvi_range1 rfl mz_range (pva_cons (pve_var 2 (pv 2)) pva_nil)) (aName (sl := [4]) sc_L_true_rules.nd) (pvb_cons (aSet (i := 5) sc_L_true_rules.nd (pve_listRg rfl rfl mz_list (pvr_1 rfl mz_range (pve_bi (cv_len) rfl mz_len (by decide +kernel) (pva_cons (pve_var 1 (pv 1)) pva_nil)))))
    (pvb_cons (aSet (i := 6) sc_L_true_rules.nd (pve_call (bs := [true, true]) C_L_pop (hr.mono (by decide)) rfl pass0 (pva_cons (pve_var 0 (pv 0)) (pva_cons (pve_var 5 (pv 5)) pva_nil))))
    (pvb_cons (aSet (i := 7) sc_L_true_rules.nd (pve_call (bs := [true, true]) C_L_pick (hr.mono (by decide)) rfl pass0 (pva_cons (pve_var 0 (pv 0)) (pva_cons (pve_var 5 (pv 5)) pva_nil))))
    (pvb_cons (pvs_if (pvt_cmp (opv_gt) (pve_ix (pve_var 1 (pv 1)) (pve_var 6 (pv 6))) (pve_ix (pve_var 1 (pv 1)) (pve_var 7 (pv 7))) (nomark _)) (pvb_one (aPar (i := 6) (j := 7) rfl sc_L_true_rules.nd (pva_cons (pve_var 7 (pv 7)) (pva_cons (pve_var 6 (pv 6)) pva_nil)))) pvb_nil)
    (pvb_cons (aSet (i := 8) sc_L_true_rules.nd (pve_call (bs := [true, false]) C_L_pick (hr.mono (by decide)) rfl pass0 (pva_cons (pve_var 0 (pv 0)) (pva_cons (pve_if (pvt_cmp (opv_eq (un_of hr)) (pve_ix (pve_var 1 (pv 1)) (pve_var 6 (pv 6))) (pve_ix (pve_var 1 (pv 1)) (pve_var 7 (pv 7))) (nomark _)) (pve_lst (pva_cons pve_str (pva_cons pve_str (pva_cons pve_str pva_nil)))) (pve_lst (pva_cons pve_str (pva_cons pve_str (pva_cons pve_str (pva_cons pve_str pva_nil)))))) pva_nil))))
    (pvb_cons (pvs_if (PVW.t (pvw_and (pvt_cmp (opv_eq (un_of hr)) (pve_var 8 (pv 8)) pve_str (nomark _)) (pvw_and1 (pvt_cmp (opv_eq (un_of hr)) (pve_call (bs := [true, false]) C_L_draw (hr.mono (by decide)) rfl pass0 (pva_cons (pve_var 0 (pv 0)) (pva_cons pve_int pva_nil))) pve_int (nomark _))))) (pvb_one (aPar (i := 6) (j := 7) rfl sc_L_true_rules.nd (pva_cons (pve_var 7 (pv 7)) (pva_cons (pve_var 6 (pv 6)) pva_nil)))) pvb_nil)
    (pvb_one (pvs_expr (pve_mut (i := 3) PySem.F.slot_list_append PySem.F.type_list_append mv_app (pv 3) (pva_cons (pve_tup (pva_cons (pve_var 6 (pv 6)) (pva_cons (pve_var 8 (pv 8)) (pva_cons (pve_var 7 (pv 7)) pva_nil)))) pva_nil)))))))))) (by decide) (by decide))
    (pvb_one (pvs_ret (pn := [0, 1, 2]) (pve_ty (cv_tuple) rfl mz_tuple (by decide +kernel) (pva_cons (pve_var 3 (pv 3)) pva_nil))))))
abbrev s_L_ring_rules : Stmt := topS 26
abbrev N_L_ring_rules : List Str := ["d", "nodes", "pair", "found", "at", "x", "y", "op"]
theorem sc_L_ring_rules : FnScope N_L_ring_rules ["d", "nodes", "pair"] (defScope s_L_ring_rules) := ⟨rfl, rfl, rfl, by decide +kernel, rfl, by decide +kernel, by decide +kernel⟩
theorem ok_L_ring_rules {P : Program} {w : World} {K : PySem.W.Frag} {mg : Str → Option Value} {base : Heap} (C_L_pick : Callee P w K mg base 2 "_law_pick" 2 m_L_pick) (C_L_draw : Callee P w K mg base 1 "_law_draw" 2 m_L_draw) (mz_len : mg "len" = none) (mz_range : mg "range" = none) (mz_int : mg "int" = none) {fa : Addr} {fd : FuncData} (F : Fun K "_law_ring_rules" "_law_ring_rules" s_L_ring_rules fa fd) :
    FnOk P w K mg base CX0 3 fa fd ["d", "nodes", "pair"] (spD K 3 m_L_ring_rules) := by
  unfold m_L_ring_rules
  exact def_ok (N := N_L_ring_rules) (m := 5) (k := 2) (bs := [true, true, true]) F sc_L_ring_rules rfl rfl fun cdv A outer s H E hr =>
    (pvb_cons (aSet (i := 3) sc_L_ring_rules.nd (pve_lst pva_nil))
    (pvb_cons (pvs_for (pn' := [0, 1, 2]) (sl := [4]) rfl PassesOwn.never (pvi_range1 rfl mz_range (pva_cons (pve_bi (cv_len) rfl mz_len (by decide +kernel) (pva_cons (pve_var 1 (pv 1)) pva_nil)) pva_nil)) (aName (sl := [4]) sc_L_ring_rules.nd) (pvb_cons (aSet (i := 5) sc_L_ring_rules.nd (pve_ix (pve_var 1 (pv 1)) (pve_var 4 (pv 4))))
    (pvb_cons (aSet (i := 6) sc_L_ring_rules.nd (pve_ix (pve_var 1 (pv 1)) (pve_op opv_mod (pve_ty (cv_int) rfl mz_int (by decide +kernel) (pva_cons (pve_op opv_add (pve_var 4 (pv 4)) pve_int) pva_nil)) (pve_bi (cv_len) rfl mz_len (by decide +kernel) (pva_cons (pve_var 1 (pv 1)) pva_nil)))))
    (pvb_cons (aSet (i := 7) sc_L_ring_rules.nd (pve_call (bs := [true, false]) C_L_pick (hr.mono (by decide)) rfl pass0 (pva_cons (pve_var 0 (pv 0)) (pva_cons (pve_lst (pva_cons pve_str (pva_cons pve_str (pva_cons pve_str (pva_cons pve_str pva_nil))))) pva_nil))))
    (pvb_cons (pvs_if (PVW.t (pvw_and (pvt_cmp (opv_eq (un_of hr)) (pve_var 7 (pv 7)) pve_str (nomark _)) (pvw_and1 (pvt_cmp (opv_eq (un_of hr)) (pve_call (bs := [true, false]) C_L_draw (hr.mono (by decide)) rfl pass0 (pva_cons (pve_var 0 (pv 0)) (pva_cons pve_int pva_nil))) pve_int (nomark _))))) (pvb_one (aPar (i := 5) (j := 6) rfl sc_L_ring_rules.nd (pva_cons (pve_var 6 (pv 6)) (pva_cons (pve_var 5 (pv 5)) pva_nil)))) pvb_nil)
    (pvb_one (pvs_expr (pve_mut (i := 3) PySem.F.slot_list_append PySem.F.type_list_append mv_app (pv 3) (pva_cons (pve_tup (pva_cons (pve_var 5 (pv 5)) (pva_cons (pve_var 7 (pv 7)) (pva_cons (pve_var 6 (pv 6)) pva_nil)))) pva_nil)))))))) (by decide) (by decide))
    (pvb_one (pvs_ret (pn := [0, 1, 2]) (pve_op opv_add (pve_var 3 (pv 3)) (pve_lst (pva_cons (pve_tup (pva_cons (pve_ix (pve_var 2 (pv 2)) pve_int) (pva_cons (pve_call (bs := [true, false]) C_L_pick (hr.mono (by decide)) rfl pass0 (pva_cons (pve_var 0 (pv 0)) (pva_cons (pve_lst (pva_cons pve_str (pva_cons pve_str pva_nil))) pva_nil))) (pva_cons (pve_ix (pve_var 2 (pv 2)) pve_int) pva_nil)))) pva_nil)))))))
abbrev s_L_other_numbers : Stmt := topS 27
abbrev N_L_other_numbers : List Str := ["d", "many", "numbers", "lots", "k", "at", "changed", "found", "lot"]
theorem sc_L_other_numbers : FnScope N_L_other_numbers ["d", "many", "numbers"] (defScope s_L_other_numbers) := ⟨rfl, rfl, rfl, by decide +kernel, rfl, by decide +kernel, by decide +kernel⟩
theorem ok_L_other_numbers {P : Program} {w : World} {K : PySem.W.Frag} {mg : Str → Option Value} {base : Heap} (C_L_draw : Callee P w K mg base 1 "_law_draw" 2 m_L_draw) (C_L_pick : Callee P w K mg base 2 "_law_pick" 2 m_L_pick) (mz_range : mg "range" = none) {fa : Addr} {fd : FuncData} (F : Fun K "_law_other_numbers" "_law_other_numbers" s_L_other_numbers fa fd) :
    FnOk P w K mg base CX0 3 fa fd ["d", "many", "numbers"] (spD K 3 m_L_other_numbers) := by
  unfold m_L_other_numbers
  exact def_ok (N := N_L_other_numbers) (m := 6) (k := 2) (bs := [true, true, true]) F sc_L_other_numbers rfl rfl fun cdv A outer s H E hr =>
    (pvb_cons (aSet (i := 3) sc_L_other_numbers.nd (pve_lst (pva_cons (pve_sl (pve_var 2 (pv 2)) (pvo_some pve_int) pvo_none) (pva_cons (pve_sl (pve_var 2 (pv 2)) pvo_none (pvo_some (pve_neg pve_int))) (pva_cons (pve_op opv_add (pve_var 2 (pv 2)) (pve_sl (pve_var 2 (pv 2)) pvo_none (pvo_some pve_int))) (pva_cons (pve_tup pva_nil) (pva_cons (pve_op opv_add (pve_sl (pve_var 2 (pv 2)) (pvo_some pve_int) pvo_none) (pve_sl (pve_var 2 (pv 2)) pvo_none (pvo_some pve_int))) pva_nil)))))))
    (pvb_cons (pvs_for (pn' := [0, 1, 2]) (sl := [4]) rfl PassesOwn.never (pvi_range1 rfl mz_range (pva_cons pve_int pva_nil)) (aName (sl := [4]) sc_L_other_numbers.nd) (pvb_cons (aSet (i := 5) sc_L_other_numbers.nd (pve_call (bs := [true, true]) C_L_draw (hr.mono (by decide)) rfl pass0 (pva_cons (pve_var 0 (pv 0)) (pva_cons (pve_var 1 (pv 1)) pva_nil))))
    (pvb_cons (aSet (i := 6) sc_L_other_numbers.nd (pve_call (bs := [true, false]) C_L_pick (hr.mono (by decide)) rfl pass0 (pva_cons (pve_var 0 (pv 0)) (pva_cons (pve_lst (pva_cons (pve_op opv_sub (pve_ix (pve_var 2 (pv 2)) (pve_var 5 (pv 5))) pve_int) (pva_cons (pve_op opv_add (pve_ix (pve_var 2 (pv 2)) (pve_var 5 (pv 5))) pve_int) (pva_cons (pve_ix (pve_var 2 (pv 2)) (pve_call (bs := [true, true]) C_L_draw (hr.mono (by decide)) rfl pass0 (pva_cons (pve_var 0 (pv 0)) (pva_cons (pve_var 1 (pv 1)) pva_nil)))) (pva_cons (pve_op opv_sub (pve_neg (pve_op opv_pow pve_int pve_int)) pve_int) pva_nil))))) pva_nil))))
    (pvb_one (pvs_expr (pve_mut (i := 3) PySem.F.slot_list_append PySem.F.type_list_append mv_app (pv 3) (pva_cons (pve_op opv_add (pve_op opv_add (pve_sl (pve_var 2 (pv 2)) pvo_none (pvo_some (pve_var 5 (pv 5)))) (pve_tup (pva_cons (pve_var 6 (pv 6)) pva_nil))) (pve_sl (pve_var 2 (pv 2)) (pvo_some (pve_op opv_add (pve_var 5 (pv 5)) pve_int)) pvo_none)) pva_nil)))))) (by decide) (by decide))
    (pvb_cons (pvs_setLc (pn := [3]) (own := [("lot", 8)]) (sl := [8]) (i := 7) rfl sc_L_other_numbers.nd rfl rfl (sw_true rfl rfl rfl (by decide +kernel)) (by decide) (pvi_slot (pv 3) (by decide)) (blk_by N_L_other_numbers (defScope s_L_other_numbers) (by decide +kernel)) (by decide) (fun _ _ _ _ _ => aName (sl := [8]) sc_L_other_numbers.nd) (fun _ _ _ _ _ => pvts_nil) (fun _ _ _ _ _ => (pve_tup (pva_cons pve_str (pva_cons (pve_var 8 (pv 8)) pva_nil)))))
    (pvb_cons (aSet (i := 7) sc_L_other_numbers.nd (pve_op opv_add (pve_var 7 (pv 7)) (pve_lst (pva_cons (pve_tup (pva_cons pve_str (pva_cons (pve_var 2 (pv 2)) pva_nil))) (pva_cons (pve_tup (pva_cons pve_str (pva_cons (pve_var 2 (pv 2)) pva_nil))) (pva_cons (pve_tup (pva_cons pve_str (pva_cons (pve_var 2 (pv 2)) pva_nil))) pva_nil))))))
    (pvb_one (pvs_ret (pn := [0, 1, 2]) (pve_op opv_add (pve_var 7 (pv 7)) (pve_lst (pva_cons (pve_tup (pva_cons pve_str pva_nil)) (pva_cons (pve_tup (pva_cons pve_str (pva_cons (pve_var 2 (pv 2)) (pva_cons (pve_var 2 (pv 2)) pva_nil)))) (pva_cons (pve_tup (pva_cons pve_str (pva_cons (pve_var 2 (pv 2)) (pva_cons (pve_sl (pve_var 2 (pv 2)) pvo_none (pvo_some pve_int)) pva_nil)))) (pva_cons (pve_tup pva_nil) pva_nil))))))))))))
abbrev s_L_other_walks : Stmt := topS 28
abbrev N_L_other_walks : List Str := ["d", "many", "walk", "at", "inner", "node", "found"]
theorem sc_L_other_walks : FnScope N_L_other_walks ["d", "many", "walk"] (defScope s_L_other_walks) := ⟨rfl, rfl, rfl, by decide +kernel, rfl, by decide +kernel, by decide +kernel⟩
theorem ok_L_other_walks {P : Program} {w : World} {K : PySem.W.Frag} {mg : Str → Option Value} {base : Heap} (C_L_draw : Callee P w K mg base 1 "_law_draw" 2 m_L_draw) (mz_len : mg "len" = none) {fa : Addr} {fd : FuncData} (F : Fun K "_law_other_walks" "_law_other_walks" s_L_other_walks fa fd) :
    FnOk P w K mg base CX0 2 fa fd ["d", "many", "walk"] (spD K 3 m_L_other_walks) := by
  unfold m_L_other_walks
  exact def_ok (N := N_L_other_walks) (m := 4) (k := 1) (bs := [true, true, true]) F sc_L_other_walks rfl rfl fun cdv A outer s H E hr =>
    (pvb_cons (aSet (i := 3) sc_L_other_walks.nd (pve_call (bs := [true, false]) C_L_draw (hr.mono (by decide)) rfl pass0 (pva_cons (pve_var 0 (pv 0)) (pva_cons (pve_bi (cv_len) rfl mz_len (by decide +kernel) (pva_cons (pve_var 2 (pv 2)) pva_nil)) pva_nil))))
    (pvb_cons (aSet (i := 4) sc_L_other_walks.nd (pve_op opv_add pve_int (pve_call (bs := [true, false]) C_L_draw (hr.mono (by decide)) rfl pass0 (pva_cons (pve_var 0 (pv 0)) (pva_cons (pve_op opv_sub (pve_bi (cv_len) rfl mz_len (by decide +kernel) (pva_cons (pve_var 2 (pv 2)) pva_nil)) pve_int) pva_nil)))))
    (pvb_cons (aSet (i := 5) sc_L_other_walks.nd (pve_call (bs := [true, true]) C_L_draw (hr.mono (by decide)) rfl pass0 (pva_cons (pve_var 0 (pv 0)) (pva_cons (pve_var 1 (pv 1)) pva_nil))))
    (pvb_cons (aSet (i := 6) sc_L_other_walks.nd (pve_lst (pva_cons (pve_op opv_add (pve_op opv_add (pve_sl (pve_var 2 (pv 2)) pvo_none (pvo_some (pve_var 3 (pv 3)))) (pve_tup (pva_cons (pve_var 5 (pv 5)) pva_nil))) (pve_sl (pve_var 2 (pv 2)) (pvo_some (pve_op opv_add (pve_var 3 (pv 3)) pve_int)) pvo_none)) (pva_cons (pve_op opv_add (pve_sl (pve_var 2 (pv 2)) pvo_none (pvo_some (pve_var 3 (pv 3)))) (pve_sl (pve_var 2 (pv 2)) (pvo_some (pve_op opv_add (pve_var 3 (pv 3)) pve_int)) pvo_none)) (pva_cons (pve_op opv_add (pve_op opv_add (pve_sl (pve_var 2 (pv 2)) pvo_none (pvo_some (pve_var 3 (pv 3)))) (pve_tup (pva_cons (pve_var 5 (pv 5)) pva_nil))) (pve_sl (pve_var 2 (pv 2)) (pvo_some (pve_var 3 (pv 3))) pvo_none)) pva_nil)))))
    (pvb_cons (aSet (i := 6) sc_L_other_walks.nd (pve_op opv_add (pve_var 6 (pv 6)) (pve_lst (pva_cons (pve_op opv_add (pve_sl (pve_var 2 (pv 2)) pvo_none (pvo_some (pve_var 4 (pv 4)))) (pve_sl (pve_var 2 (pv 2)) (pvo_some (pve_op opv_add (pve_var 4 (pv 4)) pve_int)) pvo_none)) (pva_cons (pve_op opv_add (pve_op opv_add (pve_sl (pve_var 2 (pv 2)) pvo_none (pvo_some (pve_var 4 (pv 4)))) (pve_tup (pva_cons (pve_var 5 (pv 5)) pva_nil))) (pve_sl (pve_var 2 (pv 2)) (pvo_some (pve_op opv_add (pve_var 4 (pv 4)) pve_int)) pvo_none)) pva_nil)))))
    (pvb_cons (aSet (i := 6) sc_L_other_walks.nd (pve_op opv_add (pve_var 6 (pv 6)) (pve_lst (pva_cons (pve_op opv_add (pve_sl (pve_var 2 (pv 2)) pvo_none (pvo_some (pve_var 4 (pv 4)))) (pve_sl (pve_var 2 (pv 2)) (pvo_some (pve_op opv_sub (pve_var 4 (pv 4)) pve_int)) pvo_none)) (pva_cons (pve_rev (pve_var 2 (pv 2))) (pva_cons (pve_sl (pve_var 2 (pv 2)) (pvo_some pve_int) pvo_none) (pva_cons (pve_sl (pve_var 2 (pv 2)) pvo_none (pvo_some (pve_neg pve_int))) (pva_cons (pve_tup pva_nil) (pva_cons (pve_sl (pve_var 2 (pv 2)) pvo_none (pvo_some pve_int)) (pva_cons (pve_sl (pve_var 2 (pv 2)) pvo_none (pvo_some pve_int)) pva_nil))))))))))
    (pvb_one (pvs_ret (pn := [0, 1, 2]) (pve_op opv_add (pve_var 6 (pv 6)) (pve_lst (pva_cons (pve_op opv_add (pve_var 2 (pv 2)) (pve_tup (pva_cons (pve_var 5 (pv 5)) pva_nil))) (pva_cons (pve_op opv_add (pve_tup (pva_cons (pve_var 5 (pv 5)) pva_nil)) (pve_var 2 (pv 2))) (pva_cons (pve_op opv_add (pve_sl (pve_var 2 (pv 2)) pvo_none (pvo_some pve_int)) (pve_sl (pve_var 2 (pv 2)) pvo_none (pvo_some pve_int))) (pva_cons (pve_op opv_add (pve_var 2 (pv 2)) (pve_tup (pva_cons (pve_var 1 (pv 1)) pva_nil))) (pva_cons (pve_op opv_add (pve_sl (pve_var 2 (pv 2)) pvo_none (pvo_some (pve_neg pve_int))) (pve_tup (pva_cons (pve_neg pve_int) pva_nil))) (pva_cons (pve_op opv_rep (pve_tup (pva_cons (pve_var 5 (pv 5)) pva_nil)) pve_int) pva_nil))))))))))))))))
abbrev s_L_other_pairs : Stmt := topS 29
abbrev N_L_other_pairs : List Str := ["d", "many", "pair", "rules", "node", "found", "x", "y"]
theorem sc_L_other_pairs : FnScope N_L_other_pairs ["d", "many", "pair", "rules"] (defScope s_L_other_pairs) := ⟨rfl, rfl, rfl, by decide +kernel, rfl, by decide +kernel, by decide +kernel⟩
theorem ok_L_other_pairs {P : Program} {w : World} {K : PySem.W.Frag} {mg : Str → Option Value} {base : Heap} (C_L_draw : Callee P w K mg base 1 "_law_draw" 2 m_L_draw) (C_L_apart : Callee P w K mg base 1 "_law_apart" 1 m_L_apart) {fa : Addr} {fd : FuncData} (F : Fun K "_law_other_pairs" "_law_other_pairs" s_L_other_pairs fa fd) :
    FnOk P w K mg base CX0 2 fa fd ["d", "many", "pair", "rules"] (spD K 4 m_L_other_pairs) := by
  unfold m_L_other_pairs
  exact def_ok (N := N_L_other_pairs) (m := 4) (k := 1) (bs := [true, true, true, true]) F sc_L_other_pairs rfl rfl fun cdv A outer s H E hr =>
    (pvb_cons (aSet (i := 4) sc_L_other_pairs.nd (pve_call (bs := [true, true]) C_L_draw (hr.mono (by decide)) rfl pass0 (pva_cons (pve_var 0 (pv 0)) (pva_cons (pve_var 1 (pv 1)) pva_nil))))
    (pvb_cons (aSet (i := 5) sc_L_other_pairs.nd (pve_lst (pva_cons (pve_tup (pva_cons (pve_ix (pve_var 2 (pv 2)) pve_int) (pva_cons (pve_ix (pve_var 2 (pv 2)) pve_int) pva_nil))) (pva_cons (pve_tup (pva_cons (pve_var 4 (pv 4)) (pva_cons (pve_ix (pve_var 2 (pv 2)) pve_int) pva_nil))) (pva_cons (pve_tup (pva_cons (pve_ix (pve_var 2 (pv 2)) pve_int) (pva_cons (pve_var 4 (pv 4)) pva_nil))) (pva_cons (pve_tup (pva_cons (pve_ix (pve_var 2 (pv 2)) pve_int) (pva_cons (pve_ix (pve_var 2 (pv 2)) pve_int) pva_nil))) (pva_cons (pve_tup (pva_cons (pve_ix (pve_var 2 (pv 2)) pve_int) (pva_cons (pve_ix (pve_var 2 (pv 2)) pve_int) pva_nil))) pva_nil)))))))
    (pvb_cons (aSet (i := 5) sc_L_other_pairs.nd (pve_op opv_add (pve_op opv_add (pve_var 5 (pv 5)) (pve_call (bs := [true]) C_L_apart (hr.mono (by decide)) rfl pass0 (pva_cons (pve_var 3 (pv 3)) pva_nil))) (pve_lc (pn := []) (own := [("x", 6), ("y", 7)]) (sl := [6, 7]) rfl sc_L_other_pairs.nd (pvi_fz (pve_call (bs := [true]) C_L_apart (hr.mono (by decide)) rfl pass0 (pva_cons (pve_var 3 (pv 3)) pva_nil))) (blk_by N_L_other_pairs (defScope s_L_other_pairs) (by decide +kernel)) (by decide) (fun _ _ _ _ _ => pvg_tup rfl (pvgs_cons (aName (sl := [6, 7]) sc_L_other_pairs.nd) (pvgs_cons (aName (sl := [6, 7]) sc_L_other_pairs.nd) pvgs_nil))) (fun _ _ _ _ _ => pvts_nil) (fun _ _ _ _ _ => (pve_tup (pva_cons (pve_var 7 (pv 7)) (pva_cons (pve_var 6 (pv 6)) pva_nil)))))))
    (pvb_one (pvs_ret (pn := [0, 1, 2, 3]) (pve_op opv_add (pve_var 5 (pv 5)) (pve_lst (pva_cons (pve_sl (pve_var 2 (pv 2)) pvo_none (pvo_some pve_int)) (pva_cons (pve_tup pva_nil) (pva_cons (pve_op opv_add (pve_var 2 (pv 2)) (pve_tup (pva_cons (pve_var 4 (pv 4)) pva_nil))) (pva_cons (pve_tup (pva_cons (pve_ix (pve_var 2 (pv 2)) pve_int) (pva_cons (pve_var 1 (pv 1)) pva_nil))) (pva_cons (pve_tup (pva_cons (pve_neg pve_int) (pva_cons (pve_ix (pve_var 2 (pv 2)) pve_int) pva_nil))) pva_nil))))))))))))
abbrev s_L_other_lists : Stmt := topS 30
abbrev N_L_other_lists : List Str := ["rules", "found", "at", "x", "op", "y", "other"]
theorem sc_L_other_lists : FnScope N_L_other_lists ["rules"] (defScope s_L_other_lists) := ⟨rfl, rfl, rfl, by decide +kernel, rfl, by decide +kernel, by decide +kernel⟩
theorem ok_L_other_lists {P : Program} {w : World} {K : PySem.W.Frag} {mg : Str → Option Value} {base : Heap} (mz_len : mg "len" = none) (mz_range : mg "range" = none) {fa : Addr} {fd : FuncData} (F : Fun K "_law_other_lists" "_law_other_lists" s_L_other_lists fa fd) :
    FnOk P w K mg base CX0 1 fa fd ["rules"] (spD K 1 m_L_other_lists) := by
  unfold m_L_other_lists
  exact def_ok (N := N_L_other_lists) (m := 6) (k := 0) (bs := [true]) F sc_L_other_lists rfl rfl fun cdv A outer s H E hr =>
    (pvb_cons (aSet (i := 1) sc_L_other_lists.nd (pve_lst pva_nil))
    (pvb_cons (pvs_for (pn' := [0]) (sl := [2]) rfl PassesOwn.never (pvi_range1 rfl mz_range (pva_cons (pve_bi (cv_len) rfl mz_len (by decide +kernel) (pva_cons (pve_var 0 (pv 0)) pva_nil)) pva_nil)) (aName (sl := [2]) sc_L_other_lists.nd) (pvb_cons (pvs_asg (sl := [3, 4, 5]) (pve_ix (pve_var 0 (pv 0)) (pve_var 2 (pv 2))) (pvg_tup rfl (pvgs_cons (aName (sl := [3, 4, 5]) sc_L_other_lists.nd) (pvgs_cons (aName (sl := [3, 4, 5]) sc_L_other_lists.nd) (pvgs_cons (aName (sl := [3, 4, 5]) sc_L_other_lists.nd) pvgs_nil)))) (by decide))
    (pvb_cons (aSet (i := 1) sc_L_other_lists.nd (pve_op opv_add (pve_var 1 (pv 1)) (pve_lst (pva_cons (pve_op opv_add (pve_sl (pve_var 0 (pv 0)) pvo_none (pvo_some (pve_var 2 (pv 2)))) (pve_sl (pve_var 0 (pv 0)) (pvo_some (pve_op opv_add (pve_var 2 (pv 2)) pve_int)) pvo_none)) (pva_cons (pve_op opv_add (pve_op opv_add (pve_sl (pve_var 0 (pv 0)) pvo_none (pvo_some (pve_var 2 (pv 2)))) (pve_tup (pva_cons (pve_tup (pva_cons (pve_var 5 (pv 5)) (pva_cons (pve_var 4 (pv 4)) (pva_cons (pve_var 3 (pv 3)) pva_nil)))) pva_nil))) (pve_sl (pve_var 0 (pv 0)) (pvo_some (pve_op opv_add (pve_var 2 (pv 2)) pve_int)) pvo_none)) pva_nil)))))
    (pvb_one (pvs_for (pn' := [0]) (sl := [6]) rfl PassesOwn.never (pvi_fz (pve_lst (pva_cons pve_str (pva_cons pve_str (pva_cons pve_str (pva_cons pve_str pva_nil)))))) (aName (sl := [6]) sc_L_other_lists.nd) (pvb_one (pvs_expr (pve_mut (i := 1) PySem.F.slot_list_append PySem.F.type_list_append mv_app (pv 1) (pva_cons (pve_op opv_add (pve_op opv_add (pve_sl (pve_var 0 (pv 0)) pvo_none (pvo_some (pve_var 2 (pv 2)))) (pve_tup (pva_cons (pve_tup (pva_cons (pve_var 3 (pv 3)) (pva_cons (pve_var 6 (pv 6)) (pva_cons (pve_var 5 (pv 5)) pva_nil)))) pva_nil))) (pve_sl (pve_var 0 (pv 0)) (pvo_some (pve_op opv_add (pve_var 2 (pv 2)) pve_int)) pvo_none)) pva_nil)))) (by decide) (by decide))))) (by decide) (by decide))
    (pvb_one (pvs_ret (pn := [0]) (pve_var 1 (pv 1))))))
abbrev s_L_numbers_lot : Stmt := topS 31
abbrev N_L_numbers_lot : List Str := ["d", "many", "numbers", "node", "rules"]
theorem sc_L_numbers_lot : FnScope N_L_numbers_lot ["d"] (defScope s_L_numbers_lot) := ⟨rfl, rfl, rfl, by decide +kernel, rfl, by decide +kernel, by decide +kernel⟩
theorem ok_L_numbers_lot {P : Program} {w : World} {K : PySem.W.Frag} {mg : Str → Option Value} {base : Heap} (C_L_draw : Callee P w K mg base 1 "_law_draw" 2 m_L_draw) (C_L_number : Callee P w K mg base 3 "_law_number" 1 m_L_number) (C_L_true_rules : Callee P w K mg base 3 "_law_true_rules" 3 m_L_true_rules) (C_L_other_numbers : Callee P w K mg base 3 "_law_other_numbers" 3 m_L_other_numbers) (mz_range : mg "range" = none) (mz_tuple : mg "tuple" = none) {fa : Addr} {fd : FuncData} (F : Fun K "_law_numbers_lot" "_law_numbers_lot" s_L_numbers_lot fa fd) :
    FnOk P w K mg base CX0 4 fa fd ["d"] (spD K 1 m_L_numbers_lot) := by
  unfold m_L_numbers_lot
  exact def_ok (N := N_L_numbers_lot) (m := 4) (k := 3) (bs := [true]) F sc_L_numbers_lot rfl rfl fun cdv A outer s H E hr =>
    (pvb_cons (aSet (i := 1) sc_L_numbers_lot.nd (pve_op opv_add pve_int (pve_call (bs := [true, false]) C_L_draw (hr.mono (by decide)) rfl pass0 (pva_cons (pve_var 0 (pv 0)) (pva_cons pve_int pva_nil)))))
    (pvb_cons (aSet (i := 2) sc_L_numbers_lot.nd (pve_ty (cv_tuple) rfl mz_tuple (by decide +kernel) (pva_cons (pve_lc (pn := []) (own := [("node", 3)]) (sl := [3]) rfl sc_L_numbers_lot.nd (pvi_range1 rfl mz_range (pva_cons (pve_var 1 (pv 1)) pva_nil)) (blk_by N_L_numbers_lot (defScope s_L_numbers_lot) (by decide +kernel)) (by decide) (fun _ _ _ _ _ => aName (sl := [3]) sc_L_numbers_lot.nd) (fun _ _ _ _ _ => pvts_nil) (fun _ _ _ _ _ => (pve_call (bs := [true]) C_L_number (hr.mono (by decide)) rfl pass0 (pva_cons (pve_var 0 (pv 0)) pva_nil)))) pva_nil)))
    (pvb_cons (aSet (i := 4) sc_L_numbers_lot.nd (pve_call (bs := [true, true, false]) C_L_true_rules (hr.mono (by decide)) rfl pass0 (pva_cons (pve_var 0 (pv 0)) (pva_cons (pve_var 2 (pv 2)) (pva_cons (pve_if (pvt_cmp (opv_gt) (pve_var 1 (pv 1)) pve_int (nomark _)) (pve_call (bs := [true, false]) C_L_draw (hr.mono (by decide)) rfl pass0 (pva_cons (pve_var 0 (pv 0)) (pva_cons pve_int pva_nil))) pve_int) pva_nil)))))
    (pvb_one (pvs_ret (pn := [0]) (pve_tup (pva_cons (pve_var 1 (pv 1)) (pva_cons (pve_var 4 (pv 4)) (pva_cons (pve_lst (pva_cons (pve_tup (pva_cons pve_str (pva_cons (pve_var 2 (pv 2)) pva_nil))) pva_nil)) (pva_cons (pve_call (bs := [true, true, true]) C_L_other_numbers (hr.mono (by decide)) rfl pass0 (pva_cons (pve_var 0 (pv 0)) (pva_cons (pve_var 1 (pv 1)) (pva_cons (pve_var 2 (pv 2)) pva_nil)))) pva_nil))))))))))
abbrev s_L_ring_lot : Stmt := topS 32
abbrev N_L_ring_lot : List Str := ["d", "many", "order", "nodes", "left", "pair", "rules", "node", "cut", "turned", "walk", "good", "bad", "other"]
theorem sc_L_ring_lot : FnScope N_L_ring_lot ["d"] (defScope s_L_ring_lot) := ⟨rfl, rfl, rfl, by decide +kernel, rfl, by decide +kernel, by decide +kernel⟩
theorem ok_L_ring_lot {P : Program} {w : World} {K : PySem.W.Frag} {mg : Str → Option Value} {base : Heap} (C_L_draw : Callee P w K mg base 1 "_law_draw" 2 m_L_draw) (C_L_shuffled : Callee P w K mg base 2 "_law_shuffled" 2 m_L_shuffled) (C_L_pick : Callee P w K mg base 2 "_law_pick" 2 m_L_pick) (C_L_pop : Callee P w K mg base 2 "_law_pop" 2 m_L_pop) (C_L_ring_rules : Callee P w K mg base 3 "_law_ring_rules" 3 m_L_ring_rules) (C_L_drawn_rules : Callee P w K mg base 3 "_law_drawn_rules" 3 m_L_drawn_rules) (C_L_other_walks : Callee P w K mg base 2 "_law_other_walks" 3 m_L_other_walks) (C_L_other_pairs : Callee P w K mg base 2 "_law_other_pairs" 4 m_L_other_pairs) (mz_range : mg "range" = none) (mz_list : mg "list" = none) (mz_len : mg "len" = none) (mz_tuple : mg "tuple" = none) {fa : Addr} {fd : FuncData} (F : Fun K "_law_ring_lot" "_law_ring_lot" s_L_ring_lot fa fd) :
    FnOk P w K mg base CX0 4 fa fd ["d"] (spD K 1 m_L_ring_lot) := by
  unfold m_L_ring_lot
  exact def_ok (N := N_L_ring_lot) (m := 13) (k := 3) (bs := [true]) F sc_L_ring_lot rfl rfl fun cdv A outer s H E hr =>
    (pvb_cons (aSet (i := 1) sc_L_ring_lot.nd (pve_op opv_add pve_int (pve_call (bs := [true, false]) C_L_draw (hr.mono (by decide)) rfl pass0 (pva_cons (pve_var 0 (pv 0)) (pva_cons pve_int pva_nil)))))
    (pvb_cons (aSet (i := 2) sc_L_ring_lot.nd (pve_call (bs := [true, false]) C_L_shuffled (hr.mono (by decide)) rfl pass0 (pva_cons (pve_var 0 (pv 0)) (pva_cons (pve_listRg rfl rfl mz_list (pvr_1 rfl mz_range (pve_var 1 (pv 1)))) pva_nil))))
    (pvb_cons (aSet (i := 3) sc_L_ring_lot.nd (pve_sl (pve_var 2 (pv 2)) pvo_none (pvo_some (pve_op opv_add pve_int (pve_call (bs := [true, false]) C_L_draw (hr.mono (by decide)) rfl pass0 (pva_cons (pve_var 0 (pv 0)) (pva_cons (pve_op opv_sub (pve_var 1 (pv 1)) pve_int) pva_nil)))))))
    (pvb_cons (aSet (i := 4) sc_L_ring_lot.nd (pve_ty (cv_list) rfl mz_list (by decide +kernel) (pva_cons (pve_var 3 (pv 3)) pva_nil)))
    (pvb_cons (aSet (i := 5) sc_L_ring_lot.nd (pve_tup (pva_cons (pve_call (bs := [true, true]) C_L_pop (hr.mono (by decide)) rfl pass0 (pva_cons (pve_var 0 (pv 0)) (pva_cons (pve_var 4 (pv 4)) pva_nil))) (pva_cons (pve_call (bs := [true, true]) C_L_pick (hr.mono (by decide)) rfl pass0 (pva_cons (pve_var 0 (pv 0)) (pva_cons (pve_var 4 (pv 4)) pva_nil))) pva_nil))))
    (pvb_cons (aSet (i := 6) sc_L_ring_lot.nd (pve_op opv_add (pve_call (bs := [true, true, true]) C_L_ring_rules (hr.mono (by decide)) rfl pass0 (pva_cons (pve_var 0 (pv 0)) (pva_cons (pve_var 3 (pv 3)) (pva_cons (pve_var 5 (pv 5)) pva_nil)))) (pve_ty (cv_list) rfl mz_list (by decide +kernel) (pva_cons (pve_call (bs := [true, true, false]) C_L_drawn_rules (hr.mono (by decide)) rfl pass0 (pva_cons (pve_var 0 (pv 0)) (pva_cons (pve_var 1 (pv 1)) (pva_cons (pve_call (bs := [true, false]) C_L_draw (hr.mono (by decide)) rfl pass0 (pva_cons (pve_var 0 (pv 0)) (pva_cons pve_int pva_nil))) pva_nil)))) pva_nil))))
    (pvb_cons (aSet (i := 6) sc_L_ring_lot.nd (pve_op opv_add (pve_var 6 (pv 6)) (pve_lc (pn := []) (own := [("node", 7)]) (sl := [7]) rfl sc_L_ring_lot.nd (pvi_fz (pve_sl (pve_sl (pve_var 2 (pv 2)) (pvo_some (pve_bi (cv_len) rfl mz_len (by decide +kernel) (pva_cons (pve_var 3 (pv 3)) pva_nil))) pvo_none) pvo_none (pvo_some pve_int))) (blk_by N_L_ring_lot (defScope s_L_ring_lot) (by decide +kernel)) (by decide) (fun _ _ _ _ _ => aName (sl := [7]) sc_L_ring_lot.nd) (fun _ _ _ _ _ => pvts_nil) (fun _ _ _ _ _ => (pve_tup (pva_cons (pve_var 7 (pv 7)) (pva_cons pve_str (pva_cons (pve_ix (pve_var 3 (pv 3)) pve_int) pva_nil))))))))
    (pvb_cons (aSet (i := 6) sc_L_ring_lot.nd (pve_ty (cv_tuple) rfl mz_tuple (by decide +kernel) (pva_cons (pve_call (bs := [true, true]) C_L_shuffled (hr.mono (by decide)) rfl pass0 (pva_cons (pve_var 0 (pv 0)) (pva_cons (pve_var 6 (pv 6)) pva_nil))) pva_nil)))
    (pvb_cons (aSet (i := 8) sc_L_ring_lot.nd (pve_call (bs := [true, false]) C_L_draw (hr.mono (by decide)) rfl pass0 (pva_cons (pve_var 0 (pv 0)) (pva_cons (pve_bi (cv_len) rfl mz_len (by decide +kernel) (pva_cons (pve_var 3 (pv 3)) pva_nil)) pva_nil))))
    (pvb_cons (aSet (i := 9) sc_L_ring_lot.nd (pve_ty (cv_tuple) rfl mz_tuple (by decide +kernel) (pva_cons (pve_op opv_add (pve_sl (pve_var 3 (pv 3)) (pvo_some (pve_var 8 (pv 8))) pvo_none) (pve_sl (pve_var 3 (pv 3)) pvo_none (pvo_some (pve_var 8 (pv 8))))) pva_nil)))
    (pvb_cons (aSet (i := 10) sc_L_ring_lot.nd (pve_op opv_add (pve_var 9 (pv 9)) (pve_sl (pve_var 9 (pv 9)) pvo_none (pvo_some pve_int))))
    (pvb_cons (aSet (i := 11) sc_L_ring_lot.nd (pve_lst (pva_cons (pve_tup (pva_cons pve_str (pva_cons (pve_var 10 (pv 10)) (pva_cons (pve_var 5 (pv 5)) pva_nil)))) (pva_cons (pve_tup (pva_cons pve_str (pva_cons (pve_ty (cv_tuple) rfl mz_tuple (by decide +kernel) (pva_cons (pve_op opv_add (pve_var 3 (pv 3)) (pve_sl (pve_var 3 (pv 3)) pvo_none (pvo_some pve_int))) pva_nil)) (pva_cons (pve_var 5 (pv 5)) pva_nil)))) (pva_cons (pve_tup (pva_cons pve_str (pva_cons (pve_op opv_add (pve_var 9 (pv 9)) (pve_var 10 (pv 10))) (pva_cons (pve_var 5 (pv 5)) pva_nil)))) pva_nil)))))
    (pvb_cons (pvs_setLc (pn := []) (own := [("other", 13)]) (sl := [13]) (i := 12) rfl sc_L_ring_lot.nd rfl rfl (sw_true rfl rfl rfl (by decide +kernel)) (by decide) (pvi_fz (pve_call (bs := [true, true, true]) C_L_other_walks (hr.mono (by decide)) rfl pass0 (pva_cons (pve_var 0 (pv 0)) (pva_cons (pve_var 1 (pv 1)) (pva_cons (pve_var 10 (pv 10)) pva_nil))))) (blk_by N_L_ring_lot (defScope s_L_ring_lot) (by decide +kernel)) (by decide) (fun _ _ _ _ _ => aName (sl := [13]) sc_L_ring_lot.nd) (fun _ _ _ _ _ => pvts_nil) (fun _ _ _ _ _ => (pve_tup (pva_cons pve_str (pva_cons (pve_var 13 (pv 13)) (pva_cons (pve_var 5 (pv 5)) pva_nil))))))
    (pvb_cons (aSet (i := 12) sc_L_ring_lot.nd (pve_op opv_add (pve_var 12 (pv 12)) (pve_lc (pn := []) (own := [("other", 13)]) (sl := [13]) rfl sc_L_ring_lot.nd (pvi_fz (pve_call (bs := [true, true, true, true]) C_L_other_pairs (hr.mono (by decide)) rfl pass0 (pva_cons (pve_var 0 (pv 0)) (pva_cons (pve_var 1 (pv 1)) (pva_cons (pve_var 5 (pv 5)) (pva_cons (pve_var 6 (pv 6)) pva_nil)))))) (blk_by N_L_ring_lot (defScope s_L_ring_lot) (by decide +kernel)) (by decide) (fun _ _ _ _ _ => aName (sl := [13]) sc_L_ring_lot.nd) (fun _ _ _ _ _ => pvts_nil) (fun _ _ _ _ _ => (pve_tup (pva_cons pve_str (pva_cons (pve_var 10 (pv 10)) (pva_cons (pve_var 13 (pv 13)) pva_nil))))))))
    (pvb_cons (aSet (i := 12) sc_L_ring_lot.nd (pve_op opv_add (pve_var 12 (pv 12)) (pve_lst (pva_cons (pve_tup (pva_cons pve_str (pva_cons (pve_var 10 (pv 10)) (pva_cons (pve_var 5 (pv 5)) pva_nil)))) (pva_cons (pve_tup (pva_cons pve_str (pva_cons (pve_var 10 (pv 10)) (pva_cons (pve_var 5 (pv 5)) pva_nil)))) (pva_cons (pve_tup (pva_cons pve_str (pva_cons (pve_var 5 (pv 5)) (pva_cons (pve_var 10 (pv 10)) pva_nil)))) (pva_cons (pve_tup (pva_cons pve_str (pva_cons (pve_var 10 (pv 10)) pva_nil))) pva_nil)))))))
    (pvb_one (pvs_ret (pn := [0]) (pve_tup (pva_cons (pve_var 1 (pv 1)) (pva_cons (pve_var 6 (pv 6)) (pva_cons (pve_var 11 (pv 11)) (pva_cons (pve_op opv_add (pve_var 12 (pv 12)) (pve_lst (pva_cons (pve_tup (pva_cons pve_str (pva_cons (pve_var 10 (pv 10)) pva_nil))) (pva_cons (pve_tup (pva_cons pve_str (pva_cons (pve_var 10 (pv 10)) (pva_cons (pve_var 5 (pv 5)) (pva_cons (pve_var 5 (pv 5)) pva_nil))))) (pva_cons (pve_tup (pva_cons pve_str pva_nil)) pva_nil))))) pva_nil))))))))))))))))))))))
abbrev s_law : Stmt := topS 33
abbrev N_law : List Str := ["script", "d", "lots", "many", "rules", "good", "others", "paper", "changed", "other"]
theorem sc_law : FnScope N_law ["script"] (defScope s_law) := ⟨rfl, rfl, rfl, by decide +kernel, rfl, by decide +kernel, by decide +kernel⟩
theorem ok_law {P : Program} {w : World} {K : PySem.W.Frag} {mg : Str → Option Value} {base : Heap} (C_L_begin : Callee P w K mg base 1 "_law_begin" 1 m_L_begin) (C_L_ring_lot : Callee P w K mg base 4 "_law_ring_lot" 1 m_L_ring_lot) (C_L_numbers_lot : Callee P w K mg base 4 "_law_numbers_lot" 1 m_L_numbers_lot) (C_L_is_answer : Callee P w K mg base 4 "_law_is_answer" 3 m_L_is_answer) (C_L_other_lists : Callee P w K mg base 1 "_law_other_lists" 1 m_L_other_lists) {fa : Addr} {fd : FuncData} (F : Fun K "law" "law" s_law fa fd) :
    FnOk P w K mg base CX0 5 fa fd ["script"] (spD K 1 m_law) := by
  unfold m_law
  exact def_ok (N := N_law) (m := 9) (k := 4) (bs := [true]) F sc_law rfl rfl fun cdv A outer s H E hr =>
    (pvb_cons (aSet (i := 1) sc_law.nd (pve_call (bs := [true]) C_L_begin (hr.mono (by decide)) rfl pass0 (pva_cons (pve_var 0 (pv 0)) pva_nil)))
    (pvb_cons (aSet (i := 2) sc_law.nd (pve_lst (pva_cons (pve_call (bs := [true]) C_L_numbers_lot (hr.mono (by decide)) rfl pass0 (pva_cons (pve_var 1 (pv 1)) pva_nil)) (pva_cons (pve_call (bs := [true]) C_L_ring_lot (hr.mono (by decide)) rfl pass0 (pva_cons (pve_var 1 (pv 1)) pva_nil)) pva_nil))))
    (pvb_cons (pvs_for (pn' := [0, 2]) (sl := [3, 4, 5, 6]) rfl PassesOwn.never (pvi_slot (pv 2) (by decide)) (pvg_tup rfl (pvgs_cons (aName (sl := [3, 4, 5, 6]) sc_law.nd) (pvgs_cons (aName (sl := [3, 4, 5, 6]) sc_law.nd) (pvgs_cons (aName (sl := [3, 4, 5, 6]) sc_law.nd) (pvgs_cons (aName (sl := [3, 4, 5, 6]) sc_law.nd) pvgs_nil))))) (pvb_cons (pvs_for (pn' := [0, 2]) (sl := [7]) rfl PassesOwn.never (pvi_fz (pve_op opv_add (pve_op opv_add (pve_var 5 (pv 5)) (pve_var 6 (pv 6))) (pve_var 5 (pv 5)))) (aName (sl := [7]) sc_law.nd) (pvb_one (pvs_if (pvt_not (pvt_tr (pve_call (bs := [true, true, true]) C_L_is_answer (hr.mono (by decide)) rfl pass0 (pva_cons (pve_var 3 (pv 3)) (pva_cons (pve_var 4 (pv 4)) (pva_cons (pve_var 7 (pv 7)) pva_nil)))))) (pvb_one (pvs_ret (pn := [0, 2]) pve_bl)) pvb_nil)) (by decide) (by decide))
    (pvb_cons (pvs_for (pn' := [0, 2]) (sl := [8]) rfl PassesOwn.never (pvi_fz (pve_call (bs := [true]) C_L_other_lists (hr.mono (by decide)) rfl pass0 (pva_cons (pve_var 4 (pv 4)) pva_nil))) (aName (sl := [8]) sc_law.nd) (pvb_one (pvs_if (pvt_not (pvt_tr (pve_call (bs := [true, true, false]) C_L_is_answer (hr.mono (by decide)) rfl pass0 (pva_cons (pve_var 3 (pv 3)) (pva_cons (pve_var 8 (pv 8)) (pva_cons (pve_ix (pve_var 5 (pv 5)) pve_int) pva_nil)))))) (pvb_one (pvs_ret (pn := [0, 2]) pve_bl)) pvb_nil)) (by decide) (by decide))
    (pvb_one (pvs_for (pn' := [0, 2]) (sl := [9]) rfl PassesOwn.never (pvi_slot (pv 2) (by decide)) (aName (sl := [9]) sc_law.nd) (pvb_one (pvs_for (pn' := [0, 2]) (sl := [7]) rfl PassesOwn.never (pvi_fz (pve_ix (pve_var 9 (pv 9)) pve_int)) (aName (sl := [7]) sc_law.nd) (pvb_one (pvs_if (pvt_not (pvt_tr (pve_call (bs := [true, true, true]) C_L_is_answer (hr.mono (by decide)) rfl pass0 (pva_cons (pve_var 3 (pv 3)) (pva_cons (pve_var 4 (pv 4)) (pva_cons (pve_var 7 (pv 7)) pva_nil)))))) (pvb_one (pvs_ret (pn := [0, 2]) pve_bl)) pvb_nil)) (by decide) (by decide))) (by decide) (by decide))))) (by decide) (by decide))
    (pvb_one (pvs_ret (pn := [0]) pve_bl)))))
end K11
end
set_option Elab.async false
set_option linter.all false
set_option maxRecDepth 100000
set_option maxHeartbeats 4000000
namespace K11
open PySem L2 PV
section
variable {l : PySem.W.OpenLaw} {w : World} {K : PySem.W.Frag} {h : Heap} {mg : Str → Option Value}
theorem all_mk (X : K.In h) (G : h.Ns mainGlobals mg) {fa : Addr} (hfa : mg "law" = some (.ref fa))
    {od0 an0 : Option Addr} {sl0 : Array (Option Value)} {oc0 kV0 dc0 pm0 cd0 ct0 : Value} {f0 : Addr}
    {od1 an1 : Option Addr} {sl1 : Array (Option Value)} {oc1 kV1 dc1 pm1 cd1 ct1 : Value} {f1 : Addr}
    {od2 an2 : Option Addr} {sl2 : Array (Option Value)} {oc2 kV2 dc2 pm2 cd2 ct2 : Value} {f2 : Addr}
    {od3 an3 : Option Addr} {sl3 : Array (Option Value)} {oc3 kV3 dc3 pm3 cd3 ct3 : Value} {f3 : Addr}
    {od4 an4 : Option Addr} {sl4 : Array (Option Value)} {oc4 kV4 dc4 pm4 cd4 ct4 : Value} {f4 : Addr}
    {od5 an5 : Option Addr} {sl5 : Array (Option Value)} {oc5 kV5 dc5 pm5 cd5 ct5 : Value} {f5 : Addr}
    {od6 an6 : Option Addr} {sl6 : Array (Option Value)} {oc6 kV6 dc6 pm6 cd6 ct6 : Value} {f6 : Addr}
    {od7 an7 : Option Addr} {sl7 : Array (Option Value)} {oc7 kV7 dc7 pm7 cd7 ct7 : Value} {f7 : Addr}
    {od8 an8 : Option Addr} {sl8 : Array (Option Value)} {oc8 kV8 dc8 pm8 cd8 ct8 : Value} {f8 : Addr}
    {od9 an9 : Option Addr} {sl9 : Array (Option Value)} {oc9 kV9 dc9 pm9 cd9 ct9 : Value} {f9 : Addr}
    {od10 an10 : Option Addr} {sl10 : Array (Option Value)} {oc10 kV10 dc10 pm10 cd10 ct10 : Value} {f10 : Addr}
    {od11 an11 : Option Addr} {sl11 : Array (Option Value)} {oc11 kV11 dc11 pm11 cd11 ct11 : Value} {f11 : Addr}
    {od12 an12 : Option Addr} {sl12 : Array (Option Value)} {oc12 kV12 dc12 pm12 cd12 ct12 : Value} {f12 : Addr}
    {od13 an13 : Option Addr} {sl13 : Array (Option Value)} {oc13 kV13 dc13 pm13 cd13 ct13 : Value} {f13 : Addr}
    {od14 an14 : Option Addr} {sl14 : Array (Option Value)} {oc14 kV14 dc14 pm14 cd14 ct14 : Value} {f14 : Addr}
    {od15 an15 : Option Addr} {sl15 : Array (Option Value)} {oc15 kV15 dc15 pm15 cd15 ct15 : Value} {f15 : Addr}
    {od16 an16 : Option Addr} {sl16 : Array (Option Value)} {oc16 kV16 dc16 pm16 cd16 ct16 : Value} {f16 : Addr}
    {od17 an17 : Option Addr} {sl17 : Array (Option Value)} {oc17 kV17 dc17 pm17 cd17 ct17 : Value} {f17 : Addr}
    {od18 an18 : Option Addr} {sl18 : Array (Option Value)} {oc18 kV18 dc18 pm18 cd18 ct18 : Value} {f18 : Addr}
    {od19 an19 : Option Addr} {sl19 : Array (Option Value)} {oc19 kV19 dc19 pm19 cd19 ct19 : Value} {f19 : Addr}
    {od20 an20 : Option Addr} {sl20 : Array (Option Value)} {oc20 kV20 dc20 pm20 cd20 ct20 : Value} {f20 : Addr}
    {od21 an21 : Option Addr} {sl21 : Array (Option Value)} {oc21 kV21 dc21 pm21 cd21 ct21 : Value} {f21 : Addr}
    {od22 an22 : Option Addr} {sl22 : Array (Option Value)} {oc22 kV22 dc22 pm22 cd22 ct22 : Value} {f22 : Addr}
    {od23 an23 : Option Addr} {sl23 : Array (Option Value)} {oc23 kV23 dc23 pm23 cd23 ct23 : Value} {f23 : Addr}
    {od24 an24 : Option Addr} {sl24 : Array (Option Value)} {oc24 kV24 dc24 pm24 cd24 ct24 : Value} {f24 : Addr}
    {od25 an25 : Option Addr} {sl25 : Array (Option Value)} {oc25 kV25 dc25 pm25 cd25 ct25 : Value} {f25 : Addr}
    {od26 an26 : Option Addr} {sl26 : Array (Option Value)} {oc26 kV26 dc26 pm26 cd26 ct26 : Value} {f26 : Addr}
    {od27 an27 : Option Addr} {sl27 : Array (Option Value)} {oc27 kV27 dc27 pm27 cd27 ct27 : Value} {f27 : Addr}
    {od28 an28 : Option Addr} {sl28 : Array (Option Value)} {oc28 kV28 dc28 pm28 cd28 ct28 : Value} {f28 : Addr}
    {od29 an29 : Option Addr} {sl29 : Array (Option Value)} {oc29 kV29 dc29 pm29 cd29 ct29 : Value} {f29 : Addr}
    (a0 : PySem.W.nsIn K mainGlobals "is_whole" = some (some (.ref f0))) (l0 : K.lookup f0 = some ⟨oc0, od0, .func (PySem.W.fnOf "is_whole" "is_whole" (defArgs s_is_whole) (defBody s_is_whole) (defScope s_is_whole) .none kV0 dc0 pm0 an0 cd0 ct0), sl0⟩) (c0 : PySem.W.codeIn K cd0 "is_whole" = true) (k0 : PySem.W.keepIn K (.ref f0) = true)
    (a1 : PySem.W.nsIn K mainGlobals "holds" = some (some (.ref f1))) (l1 : K.lookup f1 = some ⟨oc1, od1, .func (PySem.W.fnOf "holds" "holds" (defArgs s_holds) (defBody s_holds) (defScope s_holds) .none kV1 dc1 pm1 an1 cd1 ct1), sl1⟩) (c1 : PySem.W.codeIn K cd1 "holds" = true) (k1 : PySem.W.keepIn K (.ref f1) = true)
    (a2 : PySem.W.nsIn K mainGlobals "steps_of" = some (some (.ref f2))) (l2 : K.lookup f2 = some ⟨oc2, od2, .func (PySem.W.fnOf "steps_of" "steps_of" (defArgs s_steps_of) (defBody s_steps_of) (defScope s_steps_of) .none kV2 dc2 pm2 an2 cd2 ct2), sl2⟩) (c2 : PySem.W.codeIn K cd2 "steps_of" = true) (k2 : PySem.W.keepIn K (.ref f2) = true)
    (a3 : PySem.W.nsIn K mainGlobals "apart_pairs" = some (some (.ref f3))) (l3 : K.lookup f3 = some ⟨oc3, od3, .func (PySem.W.fnOf "apart_pairs" "apart_pairs" (defArgs s_apart_pairs) (defBody s_apart_pairs) (defScope s_apart_pairs) .none kV3 dc3 pm3 an3 cd3 ct3), sl3⟩) (c3 : PySem.W.codeIn K cd3 "apart_pairs" = true) (k3 : PySem.W.keepIn K (.ref f3) = true)
    (a4 : PySem.W.nsIn K mainGlobals "meets" = some (some (.ref f4))) (l4 : K.lookup f4 = some ⟨oc4, od4, .func (PySem.W.fnOf "meets" "meets" (defArgs s_meets) (defBody s_meets) (defScope s_meets) .none kV4 dc4 pm4 an4 cd4 ct4), sl4⟩) (c4 : PySem.W.codeIn K cd4 "meets" = true) (k4 : PySem.W.keepIn K (.ref f4) = true)
    (a5 : PySem.W.nsIn K mainGlobals "judge_ring" = some (some (.ref f5))) (l5 : K.lookup f5 = some ⟨oc5, od5, .func (PySem.W.fnOf "judge_ring" "judge_ring" (defArgs s_judge_ring) (defBody s_judge_ring) (defScope s_judge_ring) .none kV5 dc5 pm5 an5 cd5 ct5), sl5⟩) (c5 : PySem.W.codeIn K cd5 "judge_ring" = true) (k5 : PySem.W.keepIn K (.ref f5) = true)
    (a6 : PySem.W.nsIn K mainGlobals "judge_meeting" = some (some (.ref f6))) (l6 : K.lookup f6 = some ⟨oc6, od6, .func (PySem.W.fnOf "judge_meeting" "judge_meeting" (defArgs s_judge_meeting) (defBody s_judge_meeting) (defScope s_judge_meeting) .none kV6 dc6 pm6 an6 cd6 ct6), sl6⟩) (c6 : PySem.W.codeIn K cd6 "judge_meeting" = true) (k6 : PySem.W.keepIn K (.ref f6) = true)
    (a7 : PySem.W.nsIn K mainGlobals "_law_begin" = some (some (.ref f7))) (l7 : K.lookup f7 = some ⟨oc7, od7, .func (PySem.W.fnOf "_law_begin" "_law_begin" (defArgs s_L_begin) (defBody s_L_begin) (defScope s_L_begin) .none kV7 dc7 pm7 an7 cd7 ct7), sl7⟩) (c7 : PySem.W.codeIn K cd7 "_law_begin" = true) (k7 : PySem.W.keepIn K (.ref f7) = true)
    (a8 : PySem.W.nsIn K mainGlobals "_law_draw" = some (some (.ref f8))) (l8 : K.lookup f8 = some ⟨oc8, od8, .func (PySem.W.fnOf "_law_draw" "_law_draw" (defArgs s_L_draw) (defBody s_L_draw) (defScope s_L_draw) .none kV8 dc8 pm8 an8 cd8 ct8), sl8⟩) (c8 : PySem.W.codeIn K cd8 "_law_draw" = true) (k8 : PySem.W.keepIn K (.ref f8) = true)
    (a9 : PySem.W.nsIn K mainGlobals "_law_pick" = some (some (.ref f9))) (l9 : K.lookup f9 = some ⟨oc9, od9, .func (PySem.W.fnOf "_law_pick" "_law_pick" (defArgs s_L_pick) (defBody s_L_pick) (defScope s_L_pick) .none kV9 dc9 pm9 an9 cd9 ct9), sl9⟩) (c9 : PySem.W.codeIn K cd9 "_law_pick" = true) (k9 : PySem.W.keepIn K (.ref f9) = true)
    (a10 : PySem.W.nsIn K mainGlobals "_law_pop" = some (some (.ref f10))) (l10 : K.lookup f10 = some ⟨oc10, od10, .func (PySem.W.fnOf "_law_pop" "_law_pop" (defArgs s_L_pop) (defBody s_L_pop) (defScope s_L_pop) .none kV10 dc10 pm10 an10 cd10 ct10), sl10⟩) (c10 : PySem.W.codeIn K cd10 "_law_pop" = true) (k10 : PySem.W.keepIn K (.ref f10) = true)
    (a11 : PySem.W.nsIn K mainGlobals "_law_shuffled" = some (some (.ref f11))) (l11 : K.lookup f11 = some ⟨oc11, od11, .func (PySem.W.fnOf "_law_shuffled" "_law_shuffled" (defArgs s_L_shuffled) (defBody s_L_shuffled) (defScope s_L_shuffled) .none kV11 dc11 pm11 an11 cd11 ct11), sl11⟩) (c11 : PySem.W.codeIn K cd11 "_law_shuffled" = true) (k11 : PySem.W.keepIn K (.ref f11) = true)
    (a12 : PySem.W.nsIn K mainGlobals "_law_holds" = some (some (.ref f12))) (l12 : K.lookup f12 = some ⟨oc12, od12, .func (PySem.W.fnOf "_law_holds" "_law_holds" (defArgs s_L_holds) (defBody s_L_holds) (defScope s_L_holds) .none kV12 dc12 pm12 an12 cd12 ct12), sl12⟩) (c12 : PySem.W.codeIn K cd12 "_law_holds" = true) (k12 : PySem.W.keepIn K (.ref f12) = true)
    (a13 : PySem.W.nsIn K mainGlobals "_law_steps" = some (some (.ref f13))) (l13 : K.lookup f13 = some ⟨oc13, od13, .func (PySem.W.fnOf "_law_steps" "_law_steps" (defArgs s_L_steps) (defBody s_L_steps) (defScope s_L_steps) .none kV13 dc13 pm13 an13 cd13 ct13), sl13⟩) (c13 : PySem.W.codeIn K cd13 "_law_steps" = true) (k13 : PySem.W.keepIn K (.ref f13) = true)
    (a14 : PySem.W.nsIn K mainGlobals "_law_apart" = some (some (.ref f14))) (l14 : K.lookup f14 = some ⟨oc14, od14, .func (PySem.W.fnOf "_law_apart" "_law_apart" (defArgs s_L_apart) (defBody s_L_apart) (defScope s_L_apart) .none kV14 dc14 pm14 an14 cd14 ct14), sl14⟩) (c14 : PySem.W.codeIn K cd14 "_law_apart" = true) (k14 : PySem.W.keepIn K (.ref f14) = true)
    (a15 : PySem.W.nsIn K mainGlobals "_law_meets" = some (some (.ref f15))) (l15 : K.lookup f15 = some ⟨oc15, od15, .func (PySem.W.fnOf "_law_meets" "_law_meets" (defArgs s_L_meets) (defBody s_L_meets) (defScope s_L_meets) .none kV15 dc15 pm15 an15 cd15 ct15), sl15⟩) (c15 : PySem.W.codeIn K cd15 "_law_meets" = true) (k15 : PySem.W.keepIn K (.ref f15) = true)
    (a16 : PySem.W.nsIn K mainGlobals "_law_drawn_rules" = some (some (.ref f16))) (l16 : K.lookup f16 = some ⟨oc16, od16, .func (PySem.W.fnOf "_law_drawn_rules" "_law_drawn_rules" (defArgs s_L_drawn_rules) (defBody s_L_drawn_rules) (defScope s_L_drawn_rules) .none kV16 dc16 pm16 an16 cd16 ct16), sl16⟩) (c16 : PySem.W.codeIn K cd16 "_law_drawn_rules" = true) (k16 : PySem.W.keepIn K (.ref f16) = true)
    (a17 : PySem.W.nsIn K mainGlobals "_law_is_ring" = some (some (.ref f17))) (l17 : K.lookup f17 = some ⟨oc17, od17, .func (PySem.W.fnOf "_law_is_ring" "_law_is_ring" (defArgs s_L_is_ring) (defBody s_L_is_ring) (defScope s_L_is_ring) .none kV17 dc17 pm17 an17 cd17 ct17), sl17⟩) (c17 : PySem.W.codeIn K cd17 "_law_is_ring" = true) (k17 : PySem.W.keepIn K (.ref f17) = true)
    (a18 : PySem.W.nsIn K mainGlobals "_law_takes" = some (some (.ref f18))) (l18 : K.lookup f18 = some ⟨oc18, od18, .func (PySem.W.fnOf "_law_takes" "_law_takes" (defArgs s_L_takes) (defBody s_L_takes) (defScope s_L_takes) .none kV18 dc18 pm18 an18 cd18 ct18), sl18⟩) (c18 : PySem.W.codeIn K cd18 "_law_takes" = true) (k18 : PySem.W.keepIn K (.ref f18) = true)
    (a19 : PySem.W.nsIn K mainGlobals "_law_is_answer" = some (some (.ref f19))) (l19 : K.lookup f19 = some ⟨oc19, od19, .func (PySem.W.fnOf "_law_is_answer" "_law_is_answer" (defArgs s_L_is_answer) (defBody s_L_is_answer) (defScope s_L_is_answer) .none kV19 dc19 pm19 an19 cd19 ct19), sl19⟩) (c19 : PySem.W.codeIn K cd19 "_law_is_answer" = true) (k19 : PySem.W.keepIn K (.ref f19) = true)
    (a20 : PySem.W.nsIn K mainGlobals "_law_number" = some (some (.ref f20))) (l20 : K.lookup f20 = some ⟨oc20, od20, .func (PySem.W.fnOf "_law_number" "_law_number" (defArgs s_L_number) (defBody s_L_number) (defScope s_L_number) .none kV20 dc20 pm20 an20 cd20 ct20), sl20⟩) (c20 : PySem.W.codeIn K cd20 "_law_number" = true) (k20 : PySem.W.keepIn K (.ref f20) = true)
    (a21 : PySem.W.nsIn K mainGlobals "_law_true_rules" = some (some (.ref f21))) (l21 : K.lookup f21 = some ⟨oc21, od21, .func (PySem.W.fnOf "_law_true_rules" "_law_true_rules" (defArgs s_L_true_rules) (defBody s_L_true_rules) (defScope s_L_true_rules) .none kV21 dc21 pm21 an21 cd21 ct21), sl21⟩) (c21 : PySem.W.codeIn K cd21 "_law_true_rules" = true) (k21 : PySem.W.keepIn K (.ref f21) = true)
    (a22 : PySem.W.nsIn K mainGlobals "_law_ring_rules" = some (some (.ref f22))) (l22 : K.lookup f22 = some ⟨oc22, od22, .func (PySem.W.fnOf "_law_ring_rules" "_law_ring_rules" (defArgs s_L_ring_rules) (defBody s_L_ring_rules) (defScope s_L_ring_rules) .none kV22 dc22 pm22 an22 cd22 ct22), sl22⟩) (c22 : PySem.W.codeIn K cd22 "_law_ring_rules" = true) (k22 : PySem.W.keepIn K (.ref f22) = true)
    (a23 : PySem.W.nsIn K mainGlobals "_law_other_numbers" = some (some (.ref f23))) (l23 : K.lookup f23 = some ⟨oc23, od23, .func (PySem.W.fnOf "_law_other_numbers" "_law_other_numbers" (defArgs s_L_other_numbers) (defBody s_L_other_numbers) (defScope s_L_other_numbers) .none kV23 dc23 pm23 an23 cd23 ct23), sl23⟩) (c23 : PySem.W.codeIn K cd23 "_law_other_numbers" = true) (k23 : PySem.W.keepIn K (.ref f23) = true)
    (a24 : PySem.W.nsIn K mainGlobals "_law_other_walks" = some (some (.ref f24))) (l24 : K.lookup f24 = some ⟨oc24, od24, .func (PySem.W.fnOf "_law_other_walks" "_law_other_walks" (defArgs s_L_other_walks) (defBody s_L_other_walks) (defScope s_L_other_walks) .none kV24 dc24 pm24 an24 cd24 ct24), sl24⟩) (c24 : PySem.W.codeIn K cd24 "_law_other_walks" = true) (k24 : PySem.W.keepIn K (.ref f24) = true)
    (a25 : PySem.W.nsIn K mainGlobals "_law_other_pairs" = some (some (.ref f25))) (l25 : K.lookup f25 = some ⟨oc25, od25, .func (PySem.W.fnOf "_law_other_pairs" "_law_other_pairs" (defArgs s_L_other_pairs) (defBody s_L_other_pairs) (defScope s_L_other_pairs) .none kV25 dc25 pm25 an25 cd25 ct25), sl25⟩) (c25 : PySem.W.codeIn K cd25 "_law_other_pairs" = true) (k25 : PySem.W.keepIn K (.ref f25) = true)
    (a26 : PySem.W.nsIn K mainGlobals "_law_other_lists" = some (some (.ref f26))) (l26 : K.lookup f26 = some ⟨oc26, od26, .func (PySem.W.fnOf "_law_other_lists" "_law_other_lists" (defArgs s_L_other_lists) (defBody s_L_other_lists) (defScope s_L_other_lists) .none kV26 dc26 pm26 an26 cd26 ct26), sl26⟩) (c26 : PySem.W.codeIn K cd26 "_law_other_lists" = true) (k26 : PySem.W.keepIn K (.ref f26) = true)
    (a27 : PySem.W.nsIn K mainGlobals "_law_numbers_lot" = some (some (.ref f27))) (l27 : K.lookup f27 = some ⟨oc27, od27, .func (PySem.W.fnOf "_law_numbers_lot" "_law_numbers_lot" (defArgs s_L_numbers_lot) (defBody s_L_numbers_lot) (defScope s_L_numbers_lot) .none kV27 dc27 pm27 an27 cd27 ct27), sl27⟩) (c27 : PySem.W.codeIn K cd27 "_law_numbers_lot" = true) (k27 : PySem.W.keepIn K (.ref f27) = true)
    (a28 : PySem.W.nsIn K mainGlobals "_law_ring_lot" = some (some (.ref f28))) (l28 : K.lookup f28 = some ⟨oc28, od28, .func (PySem.W.fnOf "_law_ring_lot" "_law_ring_lot" (defArgs s_L_ring_lot) (defBody s_L_ring_lot) (defScope s_L_ring_lot) .none kV28 dc28 pm28 an28 cd28 ct28), sl28⟩) (c28 : PySem.W.codeIn K cd28 "_law_ring_lot" = true) (k28 : PySem.W.keepIn K (.ref f28) = true)
    (a29 : PySem.W.nsIn K mainGlobals "law" = some (some (.ref f29))) (l29 : K.lookup f29 = some ⟨oc29, od29, .func (PySem.W.fnOf "law" "law" (defArgs s_law) (defBody s_law) (defScope s_law) .none kV29 dc29 pm29 an29 cd29 ct29), sl29⟩) (c29 : PySem.W.codeIn K cd29 "law" = true) (k29 : PySem.W.keepIn K (.ref f29) = true)
    (z_abs : PySem.W.nsIn K mainGlobals "abs" = some none)
    (z_all : PySem.W.nsIn K mainGlobals "all" = some none)
    (z_bool : PySem.W.nsIn K mainGlobals "bool" = some none)
    (z_int : PySem.W.nsIn K mainGlobals "int" = some none)
    (z_isinstance : PySem.W.nsIn K mainGlobals "isinstance" = some none)
    (z_len : PySem.W.nsIn K mainGlobals "len" = some none)
    (z_list : PySem.W.nsIn K mainGlobals "list" = some none)
    (z_range : PySem.W.nsIn K mainGlobals "range" = some none)
    (z_tuple : PySem.W.nsIn K mainGlobals "tuple" = some none)
    (z_zip : PySem.W.nsIn K mainGlobals "zip" = some none) :
    ∃ fd : FuncData, (∀ (s : Shared) (v : Value), BindsTo s fd ⟨[v], []⟩ [("script", v)]) ∧ ∀ base : Heap, K.In base → base.Ns mainGlobals mg → FnOk l.prog w K mg base CX0 5 fa fd ["script"] (spD K 1 m_law) := by
  have e := hfa.symm.trans (PySem.W.mg_of X G a29)
  cases e
  have mz_abs := PySem.W.mg_none_of X G z_abs
  have mz_all := PySem.W.mg_none_of X G z_all
  have mz_bool := PySem.W.mg_none_of X G z_bool
  have mz_int := PySem.W.mg_none_of X G z_int
  have mz_isinstance := PySem.W.mg_none_of X G z_isinstance
  have mz_len := PySem.W.mg_none_of X G z_len
  have mz_list := PySem.W.mg_none_of X G z_list
  have mz_range := PySem.W.mg_none_of X G z_range
  have mz_tuple := PySem.W.mg_none_of X G z_tuple
  have mz_zip := PySem.W.mg_none_of X G z_zip
  have F0 := fun_mk (st := s_is_whole) l0 c0 k0
  have F1 := fun_mk (st := s_holds) l1 c1 k1
  have F2 := fun_mk (st := s_steps_of) l2 c2 k2
  have F3 := fun_mk (st := s_apart_pairs) l3 c3 k3
  have F4 := fun_mk (st := s_meets) l4 c4 k4
  have F5 := fun_mk (st := s_judge_ring) l5 c5 k5
  have F6 := fun_mk (st := s_judge_meeting) l6 c6 k6
  have F7 := fun_mk (st := s_L_begin) l7 c7 k7
  have F8 := fun_mk (st := s_L_draw) l8 c8 k8
  have F9 := fun_mk (st := s_L_pick) l9 c9 k9
  have F10 := fun_mk (st := s_L_pop) l10 c10 k10
  have F11 := fun_mk (st := s_L_shuffled) l11 c11 k11
  have F12 := fun_mk (st := s_L_holds) l12 c12 k12
  have F13 := fun_mk (st := s_L_steps) l13 c13 k13
  have F14 := fun_mk (st := s_L_apart) l14 c14 k14
  have F15 := fun_mk (st := s_L_meets) l15 c15 k15
  have F16 := fun_mk (st := s_L_drawn_rules) l16 c16 k16
  have F17 := fun_mk (st := s_L_is_ring) l17 c17 k17
  have F18 := fun_mk (st := s_L_takes) l18 c18 k18
  have F19 := fun_mk (st := s_L_is_answer) l19 c19 k19
  have F20 := fun_mk (st := s_L_number) l20 c20 k20
  have F21 := fun_mk (st := s_L_true_rules) l21 c21 k21
  have F22 := fun_mk (st := s_L_ring_rules) l22 c22 k22
  have F23 := fun_mk (st := s_L_other_numbers) l23 c23 k23
  have F24 := fun_mk (st := s_L_other_walks) l24 c24 k24
  have F25 := fun_mk (st := s_L_other_pairs) l25 c25 k25
  have F26 := fun_mk (st := s_L_other_lists) l26 c26 k26
  have F27 := fun_mk (st := s_L_numbers_lot) l27 c27 k27
  have F28 := fun_mk (st := s_L_ring_lot) l28 c28 k28
  have F29 := fun_mk (st := s_law) l29 c29 k29
  have B0 := F0.binds (ps := ["thing"]) fun _ _ _ _ _ _ us hl => match us, hl with | [_], _ => rfl
  have B1 := F1.binds (ps := ["left", "op", "right"]) fun _ _ _ _ _ _ us hl => match us, hl with | [_, _, _], _ => rfl
  have B2 := F2.binds (ps := ["comparisons"]) fun _ _ _ _ _ _ us hl => match us, hl with | [_], _ => rfl
  have B3 := F3.binds (ps := ["comparisons"]) fun _ _ _ _ _ _ us hl => match us, hl with | [_], _ => rfl
  have B4 := F4.binds (ps := ["comparisons", "numbers"]) fun _ _ _ _ _ _ us hl => match us, hl with | [_, _], _ => rfl
  have B5 := F5.binds (ps := ["comparisons", "walk", "pair"]) fun _ _ _ _ _ _ us hl => match us, hl with | [_, _, _], _ => rfl
  have B6 := F6.binds (ps := ["many", "comparisons", "paper"]) fun _ _ _ _ _ _ us hl => match us, hl with | [_, _, _], _ => rfl
  have B7 := F7.binds (ps := ["script"]) fun _ _ _ _ _ _ us hl => match us, hl with | [_], _ => rfl
  have B8 := F8.binds (ps := ["d", "many"]) fun _ _ _ _ _ _ us hl => match us, hl with | [_, _], _ => rfl
  have B9 := F9.binds (ps := ["d", "row"]) fun _ _ _ _ _ _ us hl => match us, hl with | [_, _], _ => rfl
  have B10 := F10.binds (ps := ["d", "row"]) fun _ _ _ _ _ _ us hl => match us, hl with | [_, _], _ => rfl
  have B11 := F11.binds (ps := ["d", "row"]) fun _ _ _ _ _ _ us hl => match us, hl with | [_, _], _ => rfl
  have B12 := F12.binds (ps := ["left", "op", "right"]) fun _ _ _ _ _ _ us hl => match us, hl with | [_, _, _], _ => rfl
  have B13 := F13.binds (ps := ["rules"]) fun _ _ _ _ _ _ us hl => match us, hl with | [_], _ => rfl
  have B14 := F14.binds (ps := ["rules"]) fun _ _ _ _ _ _ us hl => match us, hl with | [_], _ => rfl
  have B15 := F15.binds (ps := ["rules", "numbers"]) fun _ _ _ _ _ _ us hl => match us, hl with | [_, _], _ => rfl
  have B16 := F16.binds (ps := ["d", "many", "length"]) fun _ _ _ _ _ _ us hl => match us, hl with | [_, _, _], _ => rfl
  have B17 := F17.binds (ps := ["rules", "walk", "pair"]) fun _ _ _ _ _ _ us hl => match us, hl with | [_, _, _], _ => rfl
  have B18 := F18.binds (ps := ["many", "rules", "paper"]) fun _ _ _ _ _ _ us hl => match us, hl with | [_, _, _], _ => rfl
  have B19 := F19.binds (ps := ["many", "rules", "paper"]) fun _ _ _ _ _ _ us hl => match us, hl with | [_, _, _], _ => rfl
  have B20 := F20.binds (ps := ["d"]) fun _ _ _ _ _ _ us hl => match us, hl with | [_], _ => rfl
  have B21 := F21.binds (ps := ["d", "given", "length"]) fun _ _ _ _ _ _ us hl => match us, hl with | [_, _, _], _ => rfl
  have B22 := F22.binds (ps := ["d", "nodes", "pair"]) fun _ _ _ _ _ _ us hl => match us, hl with | [_, _, _], _ => rfl
  have B23 := F23.binds (ps := ["d", "many", "numbers"]) fun _ _ _ _ _ _ us hl => match us, hl with | [_, _, _], _ => rfl
  have B24 := F24.binds (ps := ["d", "many", "walk"]) fun _ _ _ _ _ _ us hl => match us, hl with | [_, _, _], _ => rfl
  have B25 := F25.binds (ps := ["d", "many", "pair", "rules"]) fun _ _ _ _ _ _ us hl => match us, hl with | [_, _, _, _], _ => rfl
  have B26 := F26.binds (ps := ["rules"]) fun _ _ _ _ _ _ us hl => match us, hl with | [_], _ => rfl
  have B27 := F27.binds (ps := ["d"]) fun _ _ _ _ _ _ us hl => match us, hl with | [_], _ => rfl
  have B28 := F28.binds (ps := ["d"]) fun _ _ _ _ _ _ us hl => match us, hl with | [_], _ => rfl
  refine ⟨PySem.W.fnOf "law" "law" (defArgs s_law) (defBody s_law) (defScope s_law) .none kV29 dc29 pm29 an29 cd29 ct29, fun s v => .of_eq rfl, fun base _ _ => ?_⟩
  have C_is_whole : Callee l.prog w K mg base 1 "is_whole" 1 m_is_whole := ⟨_, _, _, ok_is_whole mz_isinstance mz_int mz_bool F0, PySem.W.mg_of X G a0, F0.kp, B0⟩
  have C_holds : Callee l.prog w K mg base 1 "holds" 3 m_holds := ⟨_, _, _, ok_holds F1, PySem.W.mg_of X G a1, F1.kp, B1⟩
  have C_steps_of : Callee l.prog w K mg base 1 "steps_of" 1 m_steps_of := ⟨_, _, _, ok_steps_of F2, PySem.W.mg_of X G a2, F2.kp, B2⟩
  have C_apart_pairs : Callee l.prog w K mg base 1 "apart_pairs" 1 m_apart_pairs := ⟨_, _, _, ok_apart_pairs F3, PySem.W.mg_of X G a3, F3.kp, B3⟩
  have C_meets : Callee l.prog w K mg base 2 "meets" 2 m_meets := ⟨_, _, _, ok_meets C_holds mz_all F4, PySem.W.mg_of X G a4, F4.kp, B4⟩
  have C_judge_ring : Callee l.prog w K mg base 2 "judge_ring" 3 m_judge_ring := ⟨_, _, _, ok_judge_ring C_steps_of C_apart_pairs mz_isinstance mz_tuple mz_len mz_zip F5, PySem.W.mg_of X G a5, F5.kp, B5⟩
  have C_judge_meeting : Callee l.prog w K mg base 3 "judge_meeting" 3 m_judge_meeting := ⟨_, _, _, ok_judge_meeting C_is_whole C_meets C_judge_ring mz_len mz_isinstance mz_tuple mz_all F6, PySem.W.mg_of X G a6, F6.kp, B6⟩
  have C_L_begin : Callee l.prog w K mg base 1 "_law_begin" 1 m_L_begin := ⟨_, _, _, ok_L_begin mz_int F7, PySem.W.mg_of X G a7, F7.kp, B7⟩
  have C_L_draw : Callee l.prog w K mg base 1 "_law_draw" 2 m_L_draw := ⟨_, _, _, ok_L_draw mz_int mz_len mz_abs F8, PySem.W.mg_of X G a8, F8.kp, B8⟩
  have C_L_pick : Callee l.prog w K mg base 2 "_law_pick" 2 m_L_pick := ⟨_, _, _, ok_L_pick C_L_draw mz_len F9, PySem.W.mg_of X G a9, F9.kp, B9⟩
  have C_L_pop : Callee l.prog w K mg base 2 "_law_pop" 2 m_L_pop := ⟨_, _, _, ok_L_pop C_L_draw mz_len F10, PySem.W.mg_of X G a10, F10.kp, B10⟩
  have C_L_shuffled : Callee l.prog w K mg base 2 "_law_shuffled" 2 m_L_shuffled := ⟨_, _, _, ok_L_shuffled C_L_draw mz_list mz_len mz_range F11, PySem.W.mg_of X G a11, F11.kp, B11⟩
  have C_L_holds : Callee l.prog w K mg base 1 "_law_holds" 3 m_L_holds := ⟨_, _, _, ok_L_holds F12, PySem.W.mg_of X G a12, F12.kp, B12⟩
  have C_L_steps : Callee l.prog w K mg base 1 "_law_steps" 1 m_L_steps := ⟨_, _, _, ok_L_steps F13, PySem.W.mg_of X G a13, F13.kp, B13⟩
  have C_L_apart : Callee l.prog w K mg base 1 "_law_apart" 1 m_L_apart := ⟨_, _, _, ok_L_apart F14, PySem.W.mg_of X G a14, F14.kp, B14⟩
  have C_L_meets : Callee l.prog w K mg base 2 "_law_meets" 2 m_L_meets := ⟨_, _, _, ok_L_meets C_L_holds mz_all F15, PySem.W.mg_of X G a15, F15.kp, B15⟩
  have C_L_drawn_rules : Callee l.prog w K mg base 3 "_law_drawn_rules" 3 m_L_drawn_rules := ⟨_, _, _, ok_L_drawn_rules C_L_pop C_L_pick mz_range mz_list mz_tuple F16, PySem.W.mg_of X G a16, F16.kp, B16⟩
  have C_L_is_ring : Callee l.prog w K mg base 2 "_law_is_ring" 3 m_L_is_ring := ⟨_, _, _, ok_L_is_ring C_L_steps C_L_apart mz_len mz_range F17, PySem.W.mg_of X G a17, F17.kp, B17⟩
  have C_L_takes : Callee l.prog w K mg base 3 "_law_takes" 3 m_L_takes := ⟨_, _, _, ok_L_takes C_L_meets C_L_is_ring mz_len F18, PySem.W.mg_of X G a18, F18.kp, B18⟩
  have C_L_is_answer : Callee l.prog w K mg base 4 "_law_is_answer" 3 m_L_is_answer := ⟨_, _, _, ok_L_is_answer C_judge_meeting C_L_takes mz_isinstance mz_bool F19, PySem.W.mg_of X G a19, F19.kp, B19⟩
  have C_L_number : Callee l.prog w K mg base 3 "_law_number" 1 m_L_number := ⟨_, _, _, ok_L_number C_L_pick F20, PySem.W.mg_of X G a20, F20.kp, B20⟩
  have C_L_true_rules : Callee l.prog w K mg base 3 "_law_true_rules" 3 m_L_true_rules := ⟨_, _, _, ok_L_true_rules C_L_pop C_L_pick C_L_draw mz_range mz_len mz_list mz_tuple F21, PySem.W.mg_of X G a21, F21.kp, B21⟩
  have C_L_ring_rules : Callee l.prog w K mg base 3 "_law_ring_rules" 3 m_L_ring_rules := ⟨_, _, _, ok_L_ring_rules C_L_pick C_L_draw mz_len mz_range mz_int F22, PySem.W.mg_of X G a22, F22.kp, B22⟩
  have C_L_other_numbers : Callee l.prog w K mg base 3 "_law_other_numbers" 3 m_L_other_numbers := ⟨_, _, _, ok_L_other_numbers C_L_draw C_L_pick mz_range F23, PySem.W.mg_of X G a23, F23.kp, B23⟩
  have C_L_other_walks : Callee l.prog w K mg base 2 "_law_other_walks" 3 m_L_other_walks := ⟨_, _, _, ok_L_other_walks C_L_draw mz_len F24, PySem.W.mg_of X G a24, F24.kp, B24⟩
  have C_L_other_pairs : Callee l.prog w K mg base 2 "_law_other_pairs" 4 m_L_other_pairs := ⟨_, _, _, ok_L_other_pairs C_L_draw C_L_apart F25, PySem.W.mg_of X G a25, F25.kp, B25⟩
  have C_L_other_lists : Callee l.prog w K mg base 1 "_law_other_lists" 1 m_L_other_lists := ⟨_, _, _, ok_L_other_lists mz_len mz_range F26, PySem.W.mg_of X G a26, F26.kp, B26⟩
  have C_L_numbers_lot : Callee l.prog w K mg base 4 "_law_numbers_lot" 1 m_L_numbers_lot := ⟨_, _, _, ok_L_numbers_lot C_L_draw C_L_number C_L_true_rules C_L_other_numbers mz_range mz_tuple F27, PySem.W.mg_of X G a27, F27.kp, B27⟩
  have C_L_ring_lot : Callee l.prog w K mg base 4 "_law_ring_lot" 1 m_L_ring_lot := ⟨_, _, _, ok_L_ring_lot C_L_draw C_L_shuffled C_L_pick C_L_pop C_L_ring_rules C_L_drawn_rules C_L_other_walks C_L_other_pairs mz_range mz_list mz_len mz_tuple F28, PySem.W.mg_of X G a28, F28.kp, B28⟩
  exact ok_law C_L_begin C_L_ring_lot C_L_numbers_lot C_L_is_answer C_L_other_lists F29
end
end K11
open PySem PySem.W PyProof.Rows
set_option maxHeartbeats 0 in
theorem PySem.Challenge.cw_standingasks_k11_judge_meeting_holds : PySem.Challenge.rw_standingasks_k11_judge_meeting.Holds := by
  w_on; o_law; k_head; (case hw => w_witness2)
  k_fill
  refine L2.walk_of (l := PySem.Challenge.rw_standingasks_k11_judge_meeting) (n := 63) (k := 5) (x := "script") (CX := fun _ => L2.CX0) (sp := fun w => PV.spD _ 1 K11.m_law) rfl (by decide) rfl ⟨rfl, by decide, by decide⟩ (fun w h Y => PySem.W.kIn_of Y) ?F (fun w H a ns hl _ hS => PV.law_in K11.law_true hl hS) (fun _ _ _ _ _ h => h)
  case F =>
    intro w mg fa h KX G hmg
    refine' K11.all_mk KX G hmg ?a0 ?l0 ?c0 ?k0 ?a1 ?l1 ?c1 ?k1 ?a2 ?l2 ?c2 ?k2 ?a3 ?l3 ?c3 ?k3 ?a4 ?l4 ?c4 ?k4 ?a5 ?l5 ?c5 ?k5 ?a6 ?l6 ?c6 ?k6 ?a7 ?l7 ?c7 ?k7 ?a8 ?l8 ?c8 ?k8 ?a9 ?l9 ?c9 ?k9 ?a10 ?l10 ?c10 ?k10 ?a11 ?l11 ?c11 ?k11 ?a12 ?l12 ?c12 ?k12 ?a13 ?l13 ?c13 ?k13 ?a14 ?l14 ?c14 ?k14 ?a15 ?l15 ?c15 ?k15 ?a16 ?l16 ?c16 ?k16 ?a17 ?l17 ?c17 ?k17 ?a18 ?l18 ?c18 ?k18 ?a19 ?l19 ?c19 ?k19 ?a20 ?l20 ?c20 ?k20 ?a21 ?l21 ?c21 ?k21 ?a22 ?l22 ?c22 ?k22 ?a23 ?l23 ?c23 ?k23 ?a24 ?l24 ?c24 ?k24 ?a25 ?l25 ?c25 ?k25 ?a26 ?l26 ?c26 ?k26 ?a27 ?l27 ?c27 ?k27 ?a28 ?l28 ?c28 ?k28 ?a29 ?l29 ?c29 ?k29 ?z_abs ?z_all ?z_bool ?z_int ?z_isinstance ?z_len ?z_list ?z_range ?z_tuple ?z_zip
    (case a0 => k_is); (case l0 => k_is); (case c0 => k_is); (case k0 => k_is); (case a1 => k_is); (case l1 => k_is); (case c1 => k_is); (case k1 => k_is); (case a2 => k_is); (case l2 => k_is); (case c2 => k_is); (case k2 => k_is); (case a3 => k_is); (case l3 => k_is); (case c3 => k_is); (case k3 => k_is); (case a4 => k_is); (case l4 => k_is); (case c4 => k_is); (case k4 => k_is); (case a5 => k_is); (case l5 => k_is); (case c5 => k_is); (case k5 => k_is); (case a6 => k_is); (case l6 => k_is); (case c6 => k_is); (case k6 => k_is); (case a7 => k_is); (case l7 => k_is); (case c7 => k_is); (case k7 => k_is); (case a8 => k_is); (case l8 => k_is); (case c8 => k_is); (case k8 => k_is); (case a9 => k_is); (case l9 => k_is); (case c9 => k_is); (case k9 => k_is); (case a10 => k_is); (case l10 => k_is); (case c10 => k_is); (case k10 => k_is); (case a11 => k_is); (case l11 => k_is); (case c11 => k_is); (case k11 => k_is); (case a12 => k_is); (case l12 => k_is); (case c12 => k_is); (case k12 => k_is); (case a13 => k_is); (case l13 => k_is); (case c13 => k_is); (case k13 => k_is); (case a14 => k_is); (case l14 => k_is); (case c14 => k_is); (case k14 => k_is); (case a15 => k_is); (case l15 => k_is); (case c15 => k_is); (case k15 => k_is); (case a16 => k_is); (case l16 => k_is); (case c16 => k_is); (case k16 => k_is); (case a17 => k_is); (case l17 => k_is); (case c17 => k_is); (case k17 => k_is); (case a18 => k_is); (case l18 => k_is); (case c18 => k_is); (case k18 => k_is); (case a19 => k_is); (case l19 => k_is); (case c19 => k_is); (case k19 => k_is); (case a20 => k_is); (case l20 => k_is); (case c20 => k_is); (case k20 => k_is); (case a21 => k_is); (case l21 => k_is); (case c21 => k_is); (case k21 => k_is); (case a22 => k_is); (case l22 => k_is); (case c22 => k_is); (case k22 => k_is); (case a23 => k_is); (case l23 => k_is); (case c23 => k_is); (case k23 => k_is); (case a24 => k_is); (case l24 => k_is); (case c24 => k_is); (case k24 => k_is); (case a25 => k_is); (case l25 => k_is); (case c25 => k_is); (case k25 => k_is); (case a26 => k_is); (case l26 => k_is); (case c26 => k_is); (case k26 => k_is); (case a27 => k_is); (case l27 => k_is); (case c27 => k_is); (case k27 => k_is); (case a28 => k_is); (case l28 => k_is); (case c28 => k_is); (case k28 => k_is); (case a29 => k_is); (case l29 => k_is); (case c29 => k_is); (case k29 => k_is); (case z_abs => k_is); (case z_all => k_is); (case z_bool => k_is); (case z_int => k_is); (case z_isinstance => k_is); (case z_len => k_is); (case z_list => k_is); (case z_range => k_is); (case z_tuple => k_is); (case z_zip => k_is)
