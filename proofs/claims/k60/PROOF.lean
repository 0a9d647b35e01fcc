import PyProof.Rows.All
import Wide.All
import OpenK.AllK
import Wide.FinOn
import HandS.ForMost
import HandS.Deep
import HandS.Wide
import HandS.WideBits
import HandS.Conv
import HandS.TupAny
import HandS.SortInts
import HandS.IsInst
import HandS.Flow
import HandS.Zip
import HandS.NoneIn
import KE.DataEq
import KE.OsArith
import KE.BitLaws
import HandS.Style
import HandS.TupMul
import HandS.SetFor
import HandS.Strs
import HandS.SortOrd
import PyProof.Rows.SetFrom
import PyProof.ListNew
import HandS.Iter
import PySem.Challenge.RW_standingasks_k60_probe_values
section
set_option Elab.async false
set_option linter.all false
set_option maxRecDepth 100000
set_option maxHeartbeats 4000000
namespace L2
open PySem
section
variable {K : PySem.W.Frag}
theorem dpAll_iff {H : Hp} : ∀ {vs : List V} {ds : List PyData}, DpAll K H vs ds ↔ vs.length = ds.length ∧ ∀ (i : Nat) (v : V) (d : PyData), vs[i]? = some v → ds[i]? = some d → Dp K H v d := by
  intro vs
  induction vs with
  | nil =>
    intro ds
    cases ds with
    | nil => exact ⟨fun _ => ⟨rfl, fun i v d h => (by simp at h)⟩, fun _ => .nil⟩
    | cons d ds => exact ⟨fun h => (by cases h), fun h => (by simp at h)⟩
  | cons v vs ih =>
    intro ds
    cases ds with
    | nil => exact ⟨fun h => (by cases h), fun h => (by simp at h)⟩
    | cons d ds =>
      constructor
      · intro h
        cases h with
        | cons h1 h2 =>
          obtain ⟨l, q⟩ := ih.mp h2
          refine ⟨by simp [l], fun i v' d' e1 e2 => ?_⟩
          cases i with
          | zero => simp at e1 e2; subst e1; subst e2; exact h1
          | succ i => exact q i v' d' (by simpa using e1) (by simpa using e2)
      · intro ⟨l, q⟩
        exact .cons (q 0 v d rfl rfl) (ih.mpr ⟨by simpa using l, fun i v' d' e1 e2 => q (i + 1) v' d' (by simpa using e1) (by simpa using e2)⟩)
theorem DpAll.len {H : Hp} {vs : List V} {ds : List PyData} (h : DpAll K H vs ds) : vs.length = ds.length := (dpAll_iff.mp h).1
theorem DpAll.get {H : Hp} {vs : List V} {ds : List PyData} (h : DpAll K H vs ds) {i : Nat} {d : PyData} (e : ds[i]? = some d) : ∃ v, vs[i]? = some v ∧ Dp K H v d := by
  have l := h.len
  have hi : i < vs.length := by have := (List.getElem?_eq_some_iff.mp e).1; omega
  exact ⟨vs[i], List.getElem?_eq_getElem hi, (dpAll_iff.mp h).2 i _ d (List.getElem?_eq_getElem hi) e⟩
theorem DpAll.getV {H : Hp} {vs : List V} {ds : List PyData} (h : DpAll K H vs ds) {i : Nat} {v : V} (e : vs[i]? = some v) : ∃ d, ds[i]? = some d ∧ Dp K H v d := by
  have l := h.len
  have hi : i < ds.length := by have := (List.getElem?_eq_some_iff.mp e).1; omega
  exact ⟨ds[i], List.getElem?_eq_getElem hi, (dpAll_iff.mp h).2 i v _ e (List.getElem?_eq_getElem hi)⟩
theorem DpAll.app {H : Hp} : ∀ {vs ws : List V} {ds es : List PyData}, DpAll K H vs ds → DpAll K H ws es → DpAll K H (vs ++ ws) (ds ++ es)
  | _, _, _, _, .nil, h => h
  | _, _, _, _, .cons h1 h2, h => .cons h1 (DpAll.app h2 h)
theorem DpAll.take {H : Hp} : ∀ {vs : List V} {ds : List PyData} (n : Nat), DpAll K H vs ds → DpAll K H (vs.take n) (ds.take n)
  | _, _, 0, _ => by simpa using DpAll.nil
  | _, _, n + 1, .nil => .nil
  | _, _, n + 1, .cons h1 h2 => .cons h1 (DpAll.take n h2)
theorem DpAll.drop {H : Hp} : ∀ {vs : List V} {ds : List PyData} (n : Nat), DpAll K H vs ds → DpAll K H (vs.drop n) (ds.drop n)
  | _, _, 0, h => by simpa using h
  | _, _, n + 1, .nil => .nil
  | _, _, n + 1, .cons h1 h2 => DpAll.drop n h2
theorem DpAll.set {H : Hp} {v : V} {d : PyData} (hv : Dp K H v d) : ∀ {vs : List V} {ds : List PyData} (n : Nat), DpAll K H vs ds → DpAll K H (vs.set n v) (ds.set n d)
  | _, _, _, .nil => .nil
  | _, _, 0, .cons h1 h2 => .cons hv h2
  | _, _, n + 1, .cons h1 h2 => .cons h1 (DpAll.set hv n h2)
theorem DpAll.erase {H : Hp} : ∀ {vs : List V} {ds : List PyData} (n : Nat), DpAll K H vs ds → DpAll K H (vs.eraseIdx n) (ds.eraseIdx n)
  | _, _, _, .nil => .nil
  | _, _, 0, .cons h1 h2 => h2
  | _, _, n + 1, .cons h1 h2 => .cons h1 (DpAll.erase n h2)
theorem DpAll.rev {H : Hp} : ∀ {vs : List V} {ds : List PyData}, DpAll K H vs ds → DpAll K H vs.reverse ds.reverse
  | _, _, .nil => .nil
  | _, _, .cons h1 h2 => by
    rw [List.reverse_cons, List.reverse_cons]
    exact DpAll.app (DpAll.rev h2) (.cons h1 .nil)
theorem DpAll.ints {H : Hp} : ∀ (ns : List Int), DpAll K H (ns.map V.int) (ns.map PyData.int)
  | [] => .nil
  | n :: ns => .cons (.int n) (DpAll.ints ns)
theorem DpAll.intsV {H : Hp} : ∀ {vs : List V} {ns : List Int}, DpAll K H vs (ns.map PyData.int) → vs = ns.map V.int := by
  intro vs ns
  induction ns generalizing vs with
  | nil => intro h; cases h; rfl
  | cons n ns ih =>
    intro h
    cases h with
    | cons h1 h2 => cases h1; rw [ih h2]; rfl
theorem DpAll.boolsV {H : Hp} : ∀ {vs : List V} {ns : List Bool}, DpAll K H vs (ns.map PyData.bool) → vs = ns.map V.bl := by
  intro vs ns
  induction ns generalizing vs with
  | nil => intro h; cases h; rfl
  | cons n ns ih =>
    intro h
    cases h with
    | cons h1 h2 => cases h1; rw [ih h2]; rfl
theorem DpAll.strsV {H : Hp} : ∀ {vs : List V} {ns : List Str}, DpAll K H vs (ns.map PyData.str) → vs = ns.map V.str := by
  intro vs ns
  induction ns generalizing vs with
  | nil => intro h; cases h; rfl
  | cons n ns ih =>
    intro h
    cases h with
    | cons h1 h2 => cases h1; rw [ih h2]; rfl

theorem same_upd' {H : Hp} {l : Addr} {o : HO} (h : H l = none) : Same H (upd H l o) := fun b z e => by
  rw [upd_ne (ne_of_none e h)]
  exact e
end
end L2
namespace PV
open PySem L2

abbrev D := PyData
/-- a slot: nothing; a datum that never changes; a list of the frame's own -/
inductive Sl where
  | no
  | fz (d : D)
  | ow (d : D)
abbrev DS := List Sl
/-- what an expression gives: a datum, a list made just now, the thing in slot i -/
inductive Ev where
  | val (d : D)
  | fresh (d : D)
  | at_ (i : Nat)
abbrev DE := DS → (Ev → DS → Prop) → Prop
abbrev DF := DS → (D → DS → Prop) → Prop
abbrev DT := DS → (Bool → DS → Prop) → Prop

section
variable {K : PySem.W.Frag}
theorem SqL.mo {H H' : Hp} {a : Addr} {xs : List V} (e : Same H H') (h : SqL K H a xs) : SqL K H' a xs := e.seq h
theorem SqT.mo {H H' : Hp} {a : Addr} {xs : List V} (e : Same H H') (h : SqT K H a xs) : SqT K H' a xs := by
  rcases h with (h | ⟨o, h⟩) | h
  · exact .inl (.inl (e _ _ h))
  · exact .inl (.inr ⟨o, e _ _ h⟩)
  · exact .inr h
mutual
theorem Dp.mo {H H' : Hp} (e : Same H H') : ∀ (d : D) (v : V), Dp K H v d → Dp K H' v d
  | .none, _, h => by cases h; exact .non
  | .bool b, _, h => by cases h; exact .bl b
  | .int i, _, h => by cases h; exact .int i
  | .str x, _, h => by cases h; exact .str x
  | .list ds, _, h => by
    cases h with
    | lst hs ha => exact .lst (SqL.mo e hs) (DpAll.mo e ds _ ha)
  | .tuple ds, _, h => by
    cases h with
    | tup hs ha => exact .tup (SqT.mo e hs) (DpAll.mo e ds _ ha)
  | .dict _, _, h => by cases h
theorem DpAll.mo {H H' : Hp} (e : Same H H') : ∀ (ds : List D) (vs : List V), DpAll K H vs ds → DpAll K H' vs ds
  | [], _, h => by cases h; exact .nil
  | d :: ds, _, h => by
    cases h with
    | cons h1 h2 => exact .cons (Dp.mo e d _ h1) (DpAll.mo e ds _ h2)
end
/-- what an owned object holds -/
def Own (K : PySem.W.Frag) (G : Hp) : HO → D → Prop
  | .lst vs, .list ds => DpAll K G vs ds
  | _, _ => False
theorem Own.mo {G G' : Hp} (e : Same G G') : ∀ {o : HO} {d : D}, Own K G o d → Own K G' o d := by
  intro o d h
  cases o <;> cases d <;> first | exact h | exact DpAll.mo e _ _ h

def OwAt (ds : DS) (σ : St) (i : Nat) (a : Addr) : Prop := (∃ d, ds[i]? = some (.ow d)) ∧ σ[i]? = some (some (.ref a))
def Owns (ds : DS) (σ : St) (a : Addr) : Prop := ∃ i, OwAt ds σ i a
structure Rel (K : PySem.W.Frag) (G : Hp) (ds : DS) (σ : St) (H : Hp) : Prop where
  sub : Same G H
  len : ds.length = σ.length
  fz : ∀ (i : Nat) (d : D), ds[i]? = some (Sl.fz d) → ∃ v : V, σ[i]? = some (some v) ∧ Dp K G v d
  ow : ∀ (i : Nat) (d : D), ds[i]? = some (Sl.ow d) → ∃ (a : Addr) (o : HO), σ[i]? = some (some (.ref a)) ∧ G a = none ∧ H a = some o ∧ Own K G o d
  ap : ∀ (i j : Nat) (a : Addr), OwAt ds σ i a → OwAt ds σ j a → i = j
structure Ext (ds : DS) (σ : St) (G H : Hp) (ds' : DS) (σ' : St) (G' H' : Hp) : Prop where
  gg : Same G G'
  fr : ∀ b o, H b = some o → ¬ Owns ds σ b → H' b = some o
  nw : ∀ b o, G' b = some o → G b = none → H b = none ∨ Owns ds σ b
  ow : ∀ b, Owns ds' σ' b → Owns ds σ b ∨ H b = none
theorem Ext.refl (ds : DS) (σ : St) (G H : Hp) : Ext ds σ G H ds σ G H :=
  ⟨Same.refl G, fun _ _ h _ => h, fun b o h n => (by rw [n] at h; cases h), fun _ h => .inl h⟩
theorem Ext.nn {ds : DS} {σ : St} {G H : Hp} {ds' : DS} {σ' : St} {G' H' : Hp} (x : Ext ds σ G H ds' σ' G' H') {b : Addr} (h : H' b = none) : H b = none ∨ Owns ds σ b := by
  cases e : H b with
  | none => exact .inl rfl
  | some o =>
    by_cases q : Owns ds σ b
    · exact .inr q
    · rw [x.fr b o e q] at h; cases h
theorem Ext.trans {ds : DS} {σ : St} {G H : Hp} {ds1 : DS} {σ1 : St} {G1 H1 : Hp} {ds2 : DS} {σ2 : St} {G2 H2 : Hp} (x : Ext ds σ G H ds1 σ1 G1 H1) (y : Ext ds1 σ1 G1 H1 ds2 σ2 G2 H2) : Ext ds σ G H ds2 σ2 G2 H2 where
  gg := x.gg.trans y.gg
  fr := fun b o h n => by
    refine y.fr b o (x.fr b o h n) fun q => ?_
    rcases x.ow b q with q | q
    · exact n q
    · rw [h] at q; cases q
  nw := fun b o h n => by
    cases e : G1 b with
    | some u => exact x.nw b u e n
    | none =>
      rcases y.nw b o h e with q | q
      · exact x.nn q
      · exact (x.ow b q).symm
  ow := fun b h => by
    rcases y.ow b h with q | q
    · exact x.ow b q
    · exact (x.nn q).symm

/-- a value's content: frozen, or the content of an owned object -/
def Sh (K : PySem.W.Frag) (G H : Hp) (v : V) (d : D) : Prop := Dp K G v d ∨ ∃ a o, v = .ref a ∧ H a = some o ∧ Own K G o d
theorem Sh.list {G H : Hp} {v : V} {ds : List D} (s : Same G H) (h : Sh K G H v (.list ds)) : ∃ a vs, v = .ref a ∧ SqL K H a vs ∧ DpAll K G vs ds := by
  rcases h with h | ⟨a, o, e, h, q⟩
  · cases h with
    | lst hs ha => exact ⟨_, _, rfl, SqL.mo s hs, ha⟩
  · cases o with
    | lst vs => exact ⟨a, vs, e, .inl (.inl h), q⟩
    | _ => exact False.elim q
theorem Sh.tuple {G H : Hp} {v : V} {ds : List D} (s : Same G H) (h : Sh K G H v (.tuple ds)) : ∃ a vs, v = .ref a ∧ SqT K H a vs ∧ DpAll K G vs ds := by
  rcases h with h | ⟨a, o, e, h, q⟩
  · cases h with
    | tup hs ha => exact ⟨_, _, rfl, SqT.mo s hs, ha⟩
  · cases o <;> exact False.elim q
theorem Sh.dp {G H : Hp} {v : V} {d : D} (s : Same G H) (h : Sh K G H v d) : Dp K H v d := by
  rcases h with h | ⟨a, o, rfl, h, q⟩
  · exact Dp.mo s d v h
  · cases o <;> cases d <;> first | exact False.elim q | exact .lst (.inl (.inl h)) (DpAll.mo s _ _ q)
theorem Sh.int {G H : Hp} {v : V} {i : Int} (h : Sh K G H v (.int i)) : v = .int i := by
  rcases h with h | ⟨a, o, e, h, q⟩
  · cases h; rfl
  · cases o <;> exact False.elim q
theorem Sh.bool {G H : Hp} {v : V} {i : Bool} (h : Sh K G H v (.bool i)) : v = .bl i := by
  rcases h with h | ⟨a, o, e, h, q⟩
  · cases h; rfl
  · cases o <;> exact False.elim q
theorem Sh.str {G H : Hp} {v : V} {i : Str} (h : Sh K G H v (.str i)) : v = .str i := by
  rcases h with h | ⟨a, o, e, h, q⟩
  · cases h; rfl
  · cases o <;> exact False.elim q
theorem Sh.non {G H : Hp} {v : V} (h : Sh K G H v .none) : v = .non := by
  rcases h with h | ⟨a, o, e, h, q⟩
  · cases h; rfl
  · cases o <;> exact False.elim q

def EvR (K : PySem.W.Frag) (G : Hp) (ds : DS) (σ : St) (H : Hp) (v : V) : Ev → Prop
  | .val d => Dp K G v d
  | .fresh d => ∃ a o, v = .ref a ∧ G a = none ∧ H a = some o ∧ Own K G o d ∧ ¬ Owns ds σ a
  | .at_ i => σ[i]? = some (some v)
/-- a new thing is new, or was one's own -/
def FrN (ds : DS) (σ : St) (H : Hp) (v : V) : Ev → Prop
  | .fresh _ => ∀ a, v = .ref a → H a = none ∨ Owns ds σ a
  | _ => True
/-- the content by data -/
def rd (e : Ev) (ds : DS) (Q : D → Prop) : Prop := match e with
  | .val d => Q d
  | .fresh d => Q d
  | .at_ i => match ds[i]? with
    | some (.fz d) => Q d
    | some (.ow d) => Q d
    | _ => False
theorem rd_sh {G : Hp} {ds : DS} {σ : St} {H : Hp} {v : V} {e : Ev} {Q : D → Prop} (R : Rel K G ds σ H) (h : EvR K G ds σ H v e) (q : rd e ds Q) : ∃ d, Sh K G H v d ∧ Q d := by
  cases e with
  | val d => exact ⟨d, .inl h, q⟩
  | fresh d =>
    obtain ⟨a, o, e, _, h, w, _⟩ := h
    exact ⟨d, .inr ⟨a, o, e, h, w⟩, q⟩
  | at_ i =>
    have h : σ[i]? = some (some v) := h
    unfold rd at q
    split at q
    · rename_i d e
      exact False.elim (by cases e)
    · rename_i e; cases e
    · rename_i j e
      cases e
      split at q
      · rename_i d e
        obtain ⟨v', h1, h2⟩ := R.fz i d e
        rw [h] at h1; cases h1
        exact ⟨d, .inl h2, q⟩
      · rename_i d e
        obtain ⟨a, o, h1, _, h2, h3⟩ := R.ow i d e
        rw [h] at h1; cases h1
        exact ⟨d, .inr ⟨a, o, rfl, h2, h3⟩, q⟩
      · exact q.elim
/-- kept across another evaluation -/
def nm : Ev → Ev
  | .val d => .val d
  | .fresh d => .val d
  | .at_ i => .at_ i
end

theorem Rel.updO {K : PySem.W.Frag} {G : Hp} {ds : DS} {σ : St} {H : Hp} (R : Rel K G ds σ H) {p : Addr} {o : HO} (n : H p = none) : Rel K G ds σ (upd H p o) where
  sub := fun b u h => by rw [upd_ne (ne_of_none (R.sub b u h) n)]; exact R.sub b u h
  len := R.len
  fz := R.fz
  ow := fun i d h => by
    obtain ⟨a, o', h1, h2, h3, h4⟩ := R.ow i d h
    exact ⟨a, o', h1, h2, by rw [upd_ne (ne_of_none h3 n)]; exact h3, h4⟩
  ap := R.ap
theorem Rel.owNe {K : PySem.W.Frag} {G : Hp} {ds : DS} {σ : St} {H : Hp} (R : Rel K G ds σ H) {a : Addr} (h : Owns ds σ a) : G a = none ∧ ∃ o, H a = some o := by
  obtain ⟨i, ⟨d, e⟩, s⟩ := h
  obtain ⟨a', o, h1, h2, h3, _⟩ := R.ow i d e
  rw [s] at h1; cases h1
  exact ⟨h2, o, h3⟩
theorem Rel.nOwn {K : PySem.W.Frag} {G : Hp} {ds : DS} {σ : St} {H : Hp} (R : Rel K G ds σ H) {a : Addr} (h : H a = none) : ¬ Owns ds σ a := fun q => by
  obtain ⟨_, o, e⟩ := R.owNe q
  rw [h] at e; cases e
/-- an address that is no slot's is made firm -/
theorem Rel.firm {K : PySem.W.Frag} {G : Hp} {ds : DS} {σ : St} {H : Hp} (R : Rel K G ds σ H) {p : Addr} {o : HO} (n : G p = none) (h : H p = some o) (no : ¬ Owns ds σ p) : Rel K (upd G p o) ds σ H := by
  have s : Same G (upd G p o) := same_upd' n
  refine ⟨fun b u e => ?_, R.len, fun i d e => ?_, fun i d e => ?_, R.ap⟩
  · by_cases hb : b = p
    · subst hb; rw [upd_same] at e; cases e; exact h
    · rw [upd_ne hb] at e; exact R.sub b u e
  · obtain ⟨v, h1, h2⟩ := R.fz i d e
    exact ⟨v, h1, Dp.mo s d v h2⟩
  · obtain ⟨a, o', h1, h2, h3, h4⟩ := R.ow i d e
    refine ⟨a, o', h1, ?_, h3, Own.mo s h4⟩
    rw [upd_ne (fun z => no ⟨i, ⟨d, e⟩, by rw [← z]; exact h1⟩)]; exact h2
theorem Ext.firm {ds : DS} {σ : St} {G H : Hp} {p : Addr} {o : HO} (n : G p = none) (hp : H p = none ∨ Owns ds σ p) : Ext ds σ G H ds σ (upd G p o) H :=
  ⟨same_upd' n, fun _ _ h _ => h, fun b u e z => (by
    by_cases hb : b = p
    · subst hb; exact hp
    · rw [upd_ne hb, z] at e; cases e), fun _ h => .inl h⟩
theorem Ext.updO {ds : DS} {σ : St} {G H : Hp} {p : Addr} {o : HO} (n : H p = none) : Ext ds σ G H ds σ G (upd H p o) :=
  ⟨Same.refl G, fun b u h _ => (by rw [upd_ne (ne_of_none h n)]; exact h), fun b u e z => (by rw [z] at e; cases e), fun _ h => .inl h⟩
/-- a new thing that is firm at once -/
theorem Rel.newF {K : PySem.W.Frag} {G : Hp} {ds : DS} {σ : St} {H : Hp} (R : Rel K G ds σ H) {p : Addr} {o : HO} (n : H p = none) : Rel K (upd G p o) ds σ (upd H p o) ∧ Ext ds σ G H ds σ (upd G p o) (upd H p o) := by
  have hn : G p = none := by
    cases e : G p with
    | none => rfl
    | some u => have := R.sub p u e; rw [n] at this; cases this
  have no := R.nOwn n
  refine ⟨(R.updO n).firm hn upd_same no, ⟨same_upd' hn, (Ext.updO (G := G) n).fr, fun b u e z => ?_, fun _ h => .inl h⟩⟩
  by_cases hb : b = p
  · subst hb; exact .inl n
  · rw [upd_ne hb, z] at e; cases e
theorem Rel.gnone {K : PySem.W.Frag} {G : Hp} {ds : DS} {σ : St} {H : Hp} (R : Rel K G ds σ H) {p : Addr} (n : H p = none) : G p = none := by
  cases e : G p with
  | none => rfl
  | some u => have := R.sub p u e; rw [n] at this; cases this

/-- one of two ways -/
def br (b : Bool) (A B : Prop) : Prop := match b with
  | true => A
  | false => B
theorem br_i {b : Bool} {A B : Prop} (h1 : b = true → A) (h2 : b = false → B) : br b A B := by
  cases b with
  | true => exact h1 rfl
  | false => exact h2 rfl
/-! ### judgements -/
def PVE (X : Cx) (e : Expr) (f : DE) : Prop := ∃ t, PE X e t ∧ ∀ (G : Hp) (ds : DS) (σ : St) (H : Hp) (DQ : Ev → DS → Prop) (Q : VK), Rel X.K G ds σ H → f ds DQ →
  (∀ ev ds' v G' H', DQ ev ds' → Rel X.K G' ds' σ H' → Ext ds σ G H ds' σ G' H' → EvR X.K G' ds' σ H' v ev → FrN ds σ H v ev → Q v H') → t σ H Q
def PVF (X : Cx) (e : Expr) (f : DF) : Prop := ∃ t, PE X e t ∧ ∀ (G : Hp) (ds : DS) (σ : St) (H : Hp) (DQ : D → DS → Prop) (Q : VK), Rel X.K G ds σ H → f ds DQ →
  (∀ d ds' v G' H', DQ d ds' → Rel X.K G' ds' σ H' → Ext ds σ G H ds' σ G' H' → Dp X.K G' v d → Q v H') → t σ H Q
def PVT (X : Cx) (e : Expr) (f : DT) : Prop := ∃ t, PT X e t ∧ ∀ (G : Hp) (ds : DS) (σ : St) (H : Hp) (DQ : Bool → DS → Prop) (Q : Bool → Hp → Prop), Rel X.K G ds σ H → f ds DQ →
  (∀ b ds' G' H', DQ b ds' → Rel X.K G' ds' σ H' → Ext ds σ G H ds' σ G' H' → Q b H') → t σ H Q

/-! ### making firm -/
def frz (e : Ev) (ds : DS) (Q : D → DS → Prop) : Prop := match e with
  | .val d => Q d ds
  | .fresh d => Q d ds
  | .at_ i => match ds[i]? with
    | some (.fz d) => Q d ds
    | some (.ow d) => Q d (ds.set i (.fz d))
    | _ => False
def eFz (f : DE) : DF := fun ds Q => f ds fun e ds1 => frz e ds1 Q
theorem own_lst {K : PySem.W.Frag} {G : Hp} {o : HO} {d : D} (h : Own K G o d) : ∃ vs ds, o = .lst vs ∧ d = .list ds ∧ DpAll K G vs ds := by
  cases o <;> cases d <;> first | exact False.elim h | exact ⟨_, _, rfl, rfl, h⟩
theorem owAt_set {ds : DS} {σ : St} {i j : Nat} {a : Addr} {s : Sl} (hs : ∀ d, s ≠ .ow d) (h : OwAt (ds.set i s) σ j a) : OwAt ds σ j a ∧ j ≠ i := by
  obtain ⟨⟨d, e⟩, h2⟩ := h
  by_cases hij : i = j
  · subst hij
    rw [List.getElem?_set] at e
    rw [if_pos rfl] at e
    split at e
    · exact absurd (Option.some.inj e) (hs d)
    · cases e
  · rw [List.getElem?_set_ne hij] at e
    exact ⟨⟨⟨d, e⟩, h2⟩, fun z => hij z.symm⟩
/-- the list in slot i is made firm -/
theorem Rel.firmAt {K : PySem.W.Frag} {G : Hp} {ds : DS} {σ : St} {H : Hp} (R : Rel K G ds σ H) {i : Nat} {d : D} (e : ds[i]? = some (.ow d)) :
    ∃ a G', σ[i]? = some (some (.ref a)) ∧ Rel K G' (ds.set i (.fz d)) σ H ∧ Ext ds σ G H (ds.set i (.fz d)) σ G' H ∧ Dp K G' (.ref a) d := by
  obtain ⟨a, o, h1, h2, h3, h4⟩ := R.ow i d e
  obtain ⟨vs, xs, rfl, rfl, h5⟩ := own_lst h4
  have hO : Owns ds σ a := ⟨i, ⟨_, e⟩, h1⟩
  have s : Same G (upd G a (.lst vs)) := same_upd' h2
  have hd : Dp K (upd G a (.lst vs)) (.ref a) (.list xs) := .lst (.inl (.inl upd_same)) (DpAll.mo s _ _ h5)
  refine ⟨a, upd G a (.lst vs), h1, ⟨fun b u q => ?_, (by rw [List.length_set]; exact R.len), fun j d' q => ?_, fun j d' q => ?_, fun j k b p q => ?_⟩, ⟨s, fun _ _ h _ => h, fun b u q z => ?_, fun b ⟨j, q⟩ => .inl ⟨j, (owAt_set (by intro _ z; cases z) q).1⟩⟩, hd⟩
  · by_cases hb : b = a
    · subst hb; rw [upd_same] at q; cases q; exact h3
    · rw [upd_ne hb] at q; exact R.sub b u q
  · by_cases hij : i = j
    · subst hij
      rw [List.getElem?_set] at q
      rw [if_pos rfl] at q
      split at q
      · cases q; exact ⟨_, h1, hd⟩
      · cases q
    · rw [List.getElem?_set_ne hij] at q
      obtain ⟨v, q1, q2⟩ := R.fz j d' q
      exact ⟨v, q1, Dp.mo s _ _ q2⟩
  · have hij : i ≠ j := by
      rintro rfl
      rw [List.getElem?_set] at q
      rw [if_pos rfl] at q
      split at q <;> cases q
    rw [List.getElem?_set_ne hij] at q
    obtain ⟨b, o', q1, q2, q3, q4⟩ := R.ow j d' q
    refine ⟨b, o', q1, ?_, q3, Own.mo s q4⟩
    rw [upd_ne]
    · exact q2
    · rintro rfl
      exact hij (R.ap i j b ⟨⟨_, e⟩, h1⟩ ⟨⟨_, q⟩, q1⟩)
  · exact R.ap j k b (owAt_set (by intro _ z; cases z) p).1 (owAt_set (by intro _ z; cases z) q).1
  · by_cases hb : b = a
    · subst hb; exact .inr hO
    · rw [upd_ne hb, z] at q; cases q
theorem frz_ok {K : PySem.W.Frag} {G : Hp} {ds : DS} {σ : St} {H : Hp} {v : V} {ev : Ev} {DQ : D → DS → Prop} {H0 : Hp} {ds0 : DS} (R : Rel K G ds σ H) (h : EvR K G ds σ H v ev) (q : frz ev ds DQ) :
    ∃ d ds' G', DQ d ds' ∧ Rel K G' ds' σ H ∧ Dp K G' v d ∧ Same G G' ∧ (∀ b o, G' b = some o → G b = none → Owns ds σ b ∨ ((∃ d, ev = .fresh d) ∧ v = .ref b)) ∧ (∀ b, Owns ds' σ b → Owns ds σ b) := by
  cases ev with
  | val d => exact ⟨d, ds, G, q, R, h, Same.refl G, fun b o e n => (by rw [n] at e; cases e), fun _ z => z⟩
  | fresh d =>
    obtain ⟨a, o, rfl, h1, h2, h3, h4⟩ := h
    obtain ⟨vs, xs, rfl, rfl, h5⟩ := own_lst h3
    refine ⟨_, ds, upd G a (.lst vs), q, R.firm h1 h2 h4, .lst (.inl (.inl upd_same)) (DpAll.mo (same_upd' h1) _ _ h5), same_upd' h1, fun b u e n => ?_, fun _ z => z⟩
    by_cases hb : b = a
    · subst hb; exact .inr ⟨⟨_, rfl⟩, rfl⟩
    · rw [upd_ne hb, n] at e; cases e
  | at_ i =>
    have h : σ[i]? = some (some v) := h
    unfold frz at q
    simp only at q
    split at q
    · rename_i d e
      obtain ⟨v', h1, h2⟩ := R.fz i d e
      rw [h] at h1; cases h1
      exact ⟨d, ds, G, q, R, h2, Same.refl G, fun b o e n => (by rw [n] at e; cases e), fun _ z => z⟩
    · rename_i d e
      obtain ⟨a, G', h1, R', x, hd⟩ := R.firmAt e
      rw [h] at h1; cases h1
      refine ⟨d, _, G', q, R', hd, x.gg, fun b o e' n => ?_, fun b z => ?_⟩
      · rcases x.nw b o e' n with z | z
        · have := R'.sub b o e'
          rw [z] at this; cases this
        · exact .inl z
      · obtain ⟨j, z⟩ := z
        exact ⟨j, (owAt_set (by intro _ z; cases z) z).1⟩
    · exact q.elim
theorem frz_ext {K : PySem.W.Frag} {G : Hp} {ds : DS} {σ : St} {H : Hp} {v : V} {ev : Ev} {DQ : D → DS → Prop} {G1 : Hp} {ds1 : DS} {H1 : Hp} (R : Rel K G1 ds1 σ H1) (x : Ext ds σ G H ds1 σ G1 H1) (h : EvR K G1 ds1 σ H1 v ev) (n : FrN ds σ H v ev) (q : frz ev ds1 DQ) :
    ∃ d ds' G', DQ d ds' ∧ Rel K G' ds' σ H1 ∧ Dp K G' v d ∧ Ext ds σ G H ds' σ G' H1 := by
  obtain ⟨d, ds', G', h1, h2, h3, h4, h5, h6⟩ := frz_ok (H0 := H) (ds0 := ds) R h q
  refine ⟨d, ds', G', h1, h2, h3, x.gg.trans h4, x.fr, fun b o e z => ?_, fun b z => x.ow b (h6 b z)⟩
  cases e1 : G1 b with
  | some u => exact x.nw b u e1 z
  | none =>
    rcases h5 b o e e1 with q | ⟨⟨d', rfl⟩, rfl⟩
    · exact (x.ow b q).symm
    · exact n b rfl
theorem PVE.fz {X : Cx} {e : Expr} {f : DE} (h : PVE X e f) : PVF X e (eFz f) := by
  obtain ⟨t, ht, hs⟩ := h
  refine ⟨t, ht, fun G ds σ H DQ Q R hf k => hs G ds σ H _ Q R hf fun ev ds1 v G1 H1 q R1 x hv n => ?_⟩
  obtain ⟨d, ds', G', h1, h2, h3, h4⟩ := frz_ext R1 x hv n q
  exact k d ds' v G' H1 h1 h2 h4 h3
def eVal (f : DF) : DE := fun ds Q => f ds fun d ds1 => Q (.val d) ds1
theorem PVF.val {X : Cx} {e : Expr} {f : DF} (h : PVF X e f) : PVE X e (eVal f) := by
  obtain ⟨t, ht, hs⟩ := h
  exact ⟨t, ht, fun G ds σ H DQ Q R hf k => hs G ds σ H _ Q R hf fun d ds1 v G1 H1 q R1 x hv => k _ _ _ _ _ q R1 x hv trivial⟩

/-! ### names, constants -/
/-- the slot holds a thing -/
def withSl (ds : DS) (i : Nat) (P : Prop) : Prop := match ds[i]? with
  | some (.fz _) => P
  | some (.ow _) => P
  | _ => False
def eVar (i : Nat) : DE := fun ds Q => withSl ds i (Q (.at_ i) ds)
def eC (d : D) : DE := fun ds Q => Q (.val d) ds
theorem pve_var {X : Cx} (i : Nat) {x : Str} {pos : Pos} (h : PE X (.Name x pos) (tVar i)) : PVE X (.Name x pos) (eVar i) := by
  refine ⟨_, h, fun G ds σ H DQ Q R hf k => ?_⟩
  have h : (∃ v, σ[i]? = some (some v)) ∧ DQ (.at_ i) ds := by
    have hf : withSl ds i (DQ (.at_ i) ds) := hf
    unfold withSl at hf
    split at hf
    · rename_i d e; obtain ⟨v, q, _⟩ := R.fz i d e; exact ⟨⟨v, q⟩, hf⟩
    · rename_i d e; obtain ⟨a, _, q, _⟩ := R.ow i d e; exact ⟨⟨_, q⟩, hf⟩
    · exact hf.elim
  obtain ⟨⟨v, e⟩, h2⟩ := h
  exact ⟨v, e, k _ _ _ _ _ h2 R (Ext.refl ..) e trivial⟩
theorem pve_c {X : Cx} {e : Expr} {v : V} {d : D} (h : PE X e (tC v)) (hd : ∀ H, Dp X.K H v d) : PVE X e (eC d) :=
  ⟨_, h, fun G ds σ H DQ Q R hf k => k _ _ _ _ _ hf R (Ext.refl ..) (hd _) trivial⟩
section
variable {X : Cx} {pos : Pos}
theorem pve_int {i j} : PVE X (.Constant (.int i) j pos) (eC (.int i)) := pve_c pe_int fun _ => .int i
theorem pve_bl {b j} : PVE X (.Constant (.bool b) j pos) (eC (.bool b)) := pve_c pe_bl fun _ => .bl b
theorem pve_non {j} : PVE X (.Constant .none j pos) (eC .none) := pve_c pe_non fun _ => .non
theorem pve_str {x j} : PVE X (.Constant (.str x) j pos) (eC (.str x)) := pve_c pe_str fun _ => .str x
end
/-- a reading that makes first operands firm enough to stay -/
theorem nm_ok {K : PySem.W.Frag} {G : Hp} {ds : DS} {σ : St} {H : Hp} {v : V} {ev : Ev} {G0 : Hp} {ds0 : DS} {H0 : Hp} (R : Rel K G ds σ H) (x : Ext ds0 σ G0 H0 ds σ G H) (h : EvR K G ds σ H v ev) (n : FrN ds0 σ H0 v ev) :
    ∃ G', Rel K G' ds σ H ∧ Ext ds0 σ G0 H0 ds σ G' H ∧ EvR K G' ds σ H v (nm ev) := by
  cases ev with
  | val d => exact ⟨G, R, x, h⟩
  | at_ i => exact ⟨G, R, x, h⟩
  | fresh d =>
    obtain ⟨d', ds', G', h1, h2, h3, h4⟩ := frz_ext (DQ := fun d' ds' => d' = d ∧ ds' = ds) R x h n ⟨rfl, rfl⟩
    obtain ⟨rfl, rfl⟩ := h1
    exact ⟨G', h2, h4, h3⟩
theorem nm_stay {K : PySem.W.Frag} {G : Hp} {ds : DS} {σ : St} {H : Hp} {v : V} {ev : Ev} {G' : Hp} {ds' : DS} {H' : Hp} (x : Same G G') (h : EvR K G ds σ H v (nm ev)) : EvR K G' ds' σ H' v (nm ev) := by
  cases ev with
  | val d => exact Dp.mo x d v h
  | at_ i => exact h
  | fresh d => exact Dp.mo x d v h
end PV
end
section
set_option Elab.async false
set_option linter.all false
set_option maxRecDepth 100000
set_option maxHeartbeats 4000000
namespace L2
open PySem PyProof.Rows
section
variable {X : Cx}
/-- list + list, whatever lists they are -/
theorem op_catL : OpR X (binaryOp .Add) (fun x y H Q => ∃ l b xs zs, x = .ref l ∧ y = .ref b ∧ SqL X.K H l xs ∧ SqL X.K H b zs ∧ xs.length + zs.length ≤ sizeLine ∧ ∀ p, H p = none → Q (.ref p) (upd H p (.lst (xs ++ zs)))) := by
  intro pins s σ H x y v u Q I rx ry h
  obtain ⟨l, b, xs, zs, rfl, rfl, hH, hB, hz, q⟩ := h
  cases rx
  cases ry
  obtain ⟨its, r, p1, z1⟩ := I.list hH
  obtain ⟨its2, r2, p2, z2⟩ := I.list hB
  obtain ⟨⟨cls, dd, data, sl⟩, ho, hc, n, hd⟩ := p1.isList
  obtain ⟨⟨cls2, dd2, data2, sl2⟩, ho2, hc2, n2, hd2⟩ := p2.isList
  simp only at hc hd hc2 hd2
  subst hc hd hc2 hd2
  have e : its.toArray ++ its2.toArray = (its ++ its2).toArray := by simp
  have l1 := r.length
  have l2 := r2.length
  refine concat_meets ⟨_, ho, rfl⟩ ⟨_, ho2, rfl⟩ noFill_list_add seq_list_add PySem.F.slot_list_add PySem.F.entry_list_add (PySem.F.args_list_add_2 _ _) (list_addW l b its.toArray its2.toArray n n2 dd dd2 sl sl2 (by rw [List.size_toArray, List.size_toArray]; omega)) ⟨ho, ho2, ?_⟩
  rw [e]
  exact ⟨.ref _, _, I.lnew (t' := s.toks) (r.append r2) (by rw [List.length_append]; omega), rfl, q _ I.fresh⟩
end
mutual
theorem Dp.plain {K : PySem.W.Frag} {H : Hp} : ∀ (d : PyData) (v : V), Dp K H v d → d.plain = true
  | .none, _, _ => rfl
  | .bool _, _, _ => rfl
  | .int _, _, _ => rfl
  | .str _, _, _ => rfl
  | .list ds, _, h => by
    cases h with
    | lst hs ha => exact DpAll.plain ds _ ha
  | .tuple ds, _, h => by
    cases h with
    | tup hs ha => exact DpAll.plain ds _ ha
  | .dict _, _, h => by cases h
theorem DpAll.plain {K : PySem.W.Frag} {H : Hp} : ∀ (ds : List PyData) (vs : List V), DpAll K H vs ds → PyData.plainAll ds = true
  | [], _, _ => rfl
  | d :: ds, _, h => by
    cases h with
    | cons h1 h2 => rw [PyData.plainAll, DpAll.plain ds _ h2, Dp.plain d _ h1]; rfl
end
section
variable {X : Cx}
/-- == of data -/
theorem op_eqP (hu : X.A.units + 64 < cLine) : OpR X (compareOp .Eq) (fun x y H Q => ∃ d e, Dp X.K H x d ∧ Dp X.K H y e ∧ min d.depth e.depth ≤ 60 ∧ Q (.bl (PyData.eqv d e)) H) := by
  intro pins s σ H x y v u Q I rx ry h
  obtain ⟨d, e, hd, he, hz, q⟩ := h
  obtain ⟨as, r1⟩ := Dp.reads I d x v hd rx
  obtain ⟨bs, r2⟩ := Dp.reads I e y u he ry
  exact SeqAt.eq_plain r1 r2 (Dp.plain d _ hd) (Dp.plain e _ he) (by omega) ⟨.bl _, H, I, rfl, q⟩
theorem op_neP (hu : X.A.units + 64 < cLine) : OpR X (compareOp .NotEq) (fun x y H Q => ∃ d e, Dp X.K H x d ∧ Dp X.K H y e ∧ min d.depth e.depth ≤ 60 ∧ Q (.bl (!PyData.eqv d e)) H) := by
  intro pins s σ H x y v u Q I rx ry h
  obtain ⟨d, e, hd, he, hz, q⟩ := h
  obtain ⟨as, r1⟩ := Dp.reads I d x v hd rx
  obtain ⟨bs, r2⟩ := Dp.reads I e y u he ry
  exact SeqAt.ne_plain r1 r2 (Dp.plain d _ hd) (Dp.plain e _ he) (by omega) ⟨.bl _, H, I, rfl, q⟩
theorem op_inP (hu : X.A.units + 64 < cLine) : OpR X (compareOp .In) (fun x y H Q => ∃ d ds e, Dp X.K H x d ∧ Dp X.K H y e ∧ (e = .list ds ∨ e = .tuple ds) ∧ min (PyData.depthAll ds) d.depth ≤ 60 ∧ Q (.bl (ds.any fun z => PyData.eqv z d)) H) := by
  intro pins s σ H x y v u Q I rx ry h
  obtain ⟨d, ds, e, hd, he, hk, hz, q⟩ := h
  obtain ⟨as, r1⟩ := Dp.reads I d x v hd rx
  obtain ⟨bs, r2⟩ := Dp.reads I e y u he ry
  have pe := Dp.plain e _ he
  rcases hk with rfl | rfl
  · exact SeqAt.in_list_data r2 r1 pe (Dp.plain d _ hd) (by omega) ⟨.bl _, H, I, rfl, q⟩
  · exact SeqAt.in_tuple_data r2 r1 pe (Dp.plain d _ hd) (by omega) ⟨.bl _, H, I, rfl, q⟩
theorem op_notInP (hu : X.A.units + 64 < cLine) : OpR X (compareOp .NotIn) (fun x y H Q => ∃ d ds e, Dp X.K H x d ∧ Dp X.K H y e ∧ (e = .list ds ∨ e = .tuple ds) ∧ min (PyData.depthAll ds) d.depth ≤ 60 ∧ Q (.bl (!ds.any fun z => PyData.eqv z d)) H) := by
  intro pins s σ H x y v u Q I rx ry h
  obtain ⟨d, ds, e, hd, he, hk, hz, q⟩ := h
  obtain ⟨as, r1⟩ := Dp.reads I d x v hd rx
  obtain ⟨bs, r2⟩ := Dp.reads I e y u he ry
  have pe := Dp.plain e _ he
  rcases hk with rfl | rfl
  · exact SeqAt.notIn_list_data r2 r1 pe (Dp.plain d _ hd) (by omega) ⟨.bl _, H, I, rfl, q⟩
  · exact SeqAt.notIn_tuple_data r2 r1 pe (Dp.plain d _ hd) (by omega) ⟨.bl _, H, I, rfl, q⟩
end
end L2

namespace PV
open PySem L2

theorem Ext.back {ds : DS} {σ : St} {G H : Hp} {ds1 : DS} {σ1 : St} {G1 H1 : Hp} (x : Ext ds σ G H ds1 σ1 G1 H1) {v : V} {ev : Ev} (h : FrN ds1 σ1 H1 v ev) : FrN ds σ H v ev := by
  cases ev with
  | fresh d =>
    intro a e
    rcases h a e with q | q
    · exact x.nn q
    · exact (x.ow a q).symm
  | _ => trivial

/-! ### operators -/
abbrev DOp := D → D → (Ev → Prop) → Prop
def OpV (X : Cx) (f : Value → Value → Sem Value) (op : DOp) : Prop := ∃ r : R2, OpR X f r ∧ ∀ (G : Hp) (ds : DS) (σ : St) (H : Hp) (x y : V) (d1 d2 : D) (DQ : Ev → Prop) (Q : VK), Rel X.K G ds σ H → Sh X.K G H x d1 → Sh X.K G H y d2 → op d1 d2 DQ →
  (∀ ev v G' H', DQ ev → Rel X.K G' ds σ H' → Ext ds σ G H ds σ G' H' → EvR X.K G' ds σ H' v ev → FrN ds σ H v ev → Q v H') → r x y H Q
def eOp (op : DOp) (f g : DE) : DE := fun ds Q => f ds fun e1 ds1 => g ds1 fun e2 ds2 => rd (nm e1) ds2 fun d1 => rd e2 ds2 fun d2 => op d1 d2 fun ev => Q ev ds2
/-- both operands, then what is asked of their contents -/
theorem bin_ok {X : Cx} {a b : Expr} {f g : DE} (ha : PVE X a f) (hb : PVE X b g) : ∃ ta tb, PE X a ta ∧ PE X b tb ∧ ∀ (G : Hp) (ds : DS) (σ : St) (H : Hp) (R : D → D → DS → Prop) (S : V → V → Hp → Prop), Rel X.K G ds σ H →
    (f ds fun e1 ds1 => g ds1 fun e2 ds2 => rd (nm e1) ds2 fun d1 => rd e2 ds2 fun d2 => R d1 d2 ds2) →
    (∀ x y d1 d2 ds' G' H', R d1 d2 ds' → Rel X.K G' ds' σ H' → Ext ds σ G H ds' σ G' H' → Sh X.K G' H' x d1 → Sh X.K G' H' y d2 → S x y H') → ta σ H fun x H1 => tb σ H1 fun y H2 => S x y H2 := by
  obtain ⟨ta, h1, s1⟩ := ha
  obtain ⟨tb, h2, s2⟩ := hb
  refine ⟨ta, tb, h1, h2, fun G ds σ H R S RR hf k => s1 G ds σ H _ _ RR hf fun e1 ds1 v1 G1 H1 q1 R1 x1 r1 n1 => ?_⟩
  obtain ⟨G1', R1', x1', r1'⟩ := nm_ok R1 x1 r1 n1
  refine s2 G1' ds1 σ H1 _ _ R1' q1 fun e2 ds2 v2 G2 H2 q2 R2 x2 r2 n2 => ?_
  obtain ⟨d1, sh1, q3⟩ := rd_sh (v := v1) R2 (nm_stay x2.gg r1') q2
  obtain ⟨d2, sh2, q4⟩ := rd_sh R2 r2 q3
  exact k v1 v2 d1 d2 ds2 G2 H2 q4 R2 (x1'.trans x2) sh1 sh2
theorem pve_op {X : Cx} {o : Operator} {op : DOp} {a b : Expr} {f g : DE} {pos : Pos} (ho : OpV X (binaryOp o) op) (ha : PVE X a f) (hb : PVE X b g) : PVE X (.BinOp a o b pos) (eOp op f g) := by
  obtain ⟨r, hr, hs⟩ := ho
  obtain ⟨ta, tb, h1, h2, hk⟩ := bin_ok ha hb
  refine ⟨_, pe_op hr h1 h2, fun G ds σ H DQ Q R hf k => hk G ds σ H _ _ R hf fun x y d1 d2 ds' G' H' q R' x' sx sy => ?_⟩
  exact hs G' ds' σ H' x y d1 d2 _ Q R' sx sy q fun ev v G2 H2 q2 R2 x2 r2 n2 => k ev ds' v G2 H2 q2 R2 (x'.trans x2) r2 (x'.back n2)
theorem pve_cmp {X : Cx} {o : CmpOp} {op : DOp} {a b : Expr} {f g : DE} {pos : Pos} (ho : OpV X (compareOp o) op) (ha : PVE X a f) (hb : PVE X b g) (hm : behindInMarks o b = false) : PVE X (.Compare a [o] [b] pos) (eOp op f g) := by
  obtain ⟨r, hr, hs⟩ := ho
  obtain ⟨ta, tb, h1, h2, hk⟩ := bin_ok ha hb
  refine ⟨_, pe_cmpR hr h1 h2 hm, fun G ds σ H DQ Q R hf k => hk G ds σ H _ _ R hf fun x y d1 d2 ds' G' H' q R' x' sx sy => ?_⟩
  exact hs G' ds' σ H' x y d1 d2 _ Q R' sx sy q fun ev v G2 H2 q2 R2 x2 r2 n2 => k ev ds' v G2 H2 q2 R2 (x'.trans x2) r2 (x'.back n2)
/-- a bool that is given -/
def isB (e : Ev) (Q : Bool → Prop) : Prop := match e with
  | .val (.bool b) => Q b
  | _ => False
def tB (f : DE) : DT := fun ds Q => f ds fun e ds1 => isB e fun b => Q b ds1
theorem isB_v {K : PySem.W.Frag} {G : Hp} {ds : DS} {σ : St} {H : Hp} {v : V} {e : Ev} {Q : Bool → Prop} (h : EvR K G ds σ H v e) (q : isB e Q) : ∃ b, v = .bl b ∧ e = .val (.bool b) ∧ Q b := by
  unfold isB at q
  split at q
  · have h : Dp K G v (.bool _) := h
    cases h
    exact ⟨_, rfl, rfl, q⟩
  · exact q.elim
theorem pvt_cmp {X : Cx} {o : CmpOp} {op : DOp} {a b : Expr} {f g : DE} {pos : Pos} (ho : OpV X (compareOp o) op) (ha : PVE X a f) (hb : PVE X b g) (hm : behindInMarks o b = false) : PVT X (.Compare a [o] [b] pos) (tB (eOp op f g)) := by
  obtain ⟨r, hr, hs⟩ := ho
  obtain ⟨ta, tb, h1, h2, hk⟩ := bin_ok ha hb
  refine ⟨_, pt_cmpR hr h1 h2 hm, fun G ds σ H DQ Q R hf k => hk G ds σ H _ _ R hf fun x y d1 d2 ds' G' H' q R' x' sx sy => ?_⟩
  refine hs G' ds' σ H' x y d1 d2 _ _ R' sx sy q fun ev v G2 H2 q2 R2 x2 r2 n2 => ?_
  obtain ⟨c, e1, e2, q3⟩ := isB_v r2 q2
  exact ⟨c, e1, k c ds' G2 H2 q3 R2 (x'.trans x2)⟩

section
variable {X : Cx}
/-- an operator on ints -/
theorem opv_of {f : Value → Value → Sem Value} {r : R2} {op : DOp} (h : OpR X f r) (hs : ∀ (G : Hp) (ds : DS) (σ : St) (H : Hp) (x y : V) (d1 d2 : D) (DQ : Ev → Prop) (Q : VK), Rel X.K G ds σ H → Sh X.K G H x d1 → Sh X.K G H y d2 → op d1 d2 DQ →
  (∀ ev v G' H', DQ ev → Rel X.K G' ds σ H' → Ext ds σ G H ds σ G' H' → EvR X.K G' ds σ H' v ev → FrN ds σ H v ev → Q v H') → r x y H Q) : OpV X f op := ⟨r, h, hs⟩
def oInt (C : Int → Int → Prop) (g : Int → Int → D) : DOp := fun d1 d2 Q => match d1, d2 with
  | .int a, .int b => C a b ∧ Q (.val (g a b))
  | _, _ => False
theorem opv_int {f : Value → Value → Sem Value} {C : Int → Int → Prop} {g : Int → Int → V} {g' : Int → Int → D} (h : OpR X f (rI C g)) (hg : ∀ a b H, Dp X.K H (g a b) (g' a b)) : OpV X f (oInt C g') := by
  refine ⟨_, h, fun G ds σ H x y d1 d2 DQ Q R sx sy hq k => ?_⟩
  unfold oInt at hq
  split at hq
  · rename_i a b
    exact ⟨a, b, sx.int, sy.int, hq.1, k _ _ _ _ hq.2 R (Ext.refl ..) (hg a b G) trivial⟩
  · exact hq.elim
theorem opr_weak {f : Value → Value → Sem Value} {r r' : R2} (h : OpR X f r) (w : ∀ x y H Q, r' x y H Q → r x y H Q) : OpR X f r' := fun pins s σ H x y v u Q I rx ry q => h pins s σ H x y v u Q I rx ry (w _ _ _ _ q)
def oI0 (g : Int → Int → D) : DOp := fun d1 d2 Q => match d1, d2 with
  | .int a, .int b => Q (.val (g a b))
  | _, _ => False
theorem opv_i0 {f : Value → Value → Sem Value} {g : Int → Int → V} {g' : Int → Int → D} (h : OpR X f (rI0 g)) (hg : ∀ a b H, Dp X.K H (g a b) (g' a b)) : OpV X f (oI0 g') := by
  refine ⟨_, h, fun G ds σ H x y d1 d2 DQ Q R sx sy hq k => ?_⟩
  unfold oI0 at hq
  split at hq
  · rename_i a b
    exact ⟨a, b, sx.int, sy.int, k _ _ _ _ hq R (Ext.refl ..) (hg a b G) trivial⟩
  · exact hq.elim
abbrev oSub : DOp := oI0 fun a b => .int (a - b)
theorem opv_sub : OpV X (binaryOp .Sub) oSub := opv_i0 op_sub fun _ _ _ => .int _
def CMulA (i j : Int) : Prop := (-(2 ^ 64) < i ∧ i < 2 ^ 64) ∨ (-(2 ^ 64) < j ∧ j < 2 ^ 64) ∨ CMulW i j
abbrev oMul : DOp := oInt CMulA fun a b => .int (a * b)
theorem opv_mul : OpV X (binaryOp .Mult) oMul := by
  refine opv_int (g := fun a b => .int (a * b)) (opr_weak (OpR.or op_mul op_mulW) fun x y H Q ⟨i, j, a, b, c, q⟩ => ?_) fun _ _ _ => .int _
  rcases c with c | c | c
  · exact .inl ⟨i, j, a, b, .inl c, q⟩
  · exact .inl ⟨i, j, a, b, .inr c, q⟩
  · exact .inr ⟨i, j, a, b, c, q⟩
abbrev oDiv : DOp := oInt CDivW fun a b => .int (a / b)
theorem opv_div : OpV X (binaryOp .FloorDiv) oDiv := opv_int op_fdivW fun _ _ _ => .int _
abbrev oMod : DOp := oInt (fun _ b => 0 < b) fun a b => .int (a % b)
theorem opv_mod : OpV X (binaryOp .Mod) oMod := opv_int op_mod fun _ _ _ => .int _
abbrev oPow : DOp := oInt CPow fun a b => .int (a ^ b.toNat)
theorem opv_pow : OpV X (binaryOp .Pow) oPow := opv_int op_pow fun _ _ _ => .int _
abbrev oShl : DOp := oInt CPow fun a b => .int (a * 2 ^ b.toNat)
theorem opv_shl : OpV X (binaryOp .LShift) oShl := opv_int op_shl fun _ _ _ => .int _
abbrev oShr : DOp := oInt (fun _ b => 0 ≤ b) fun a b => .int (a / 2 ^ b.toNat)
theorem opv_shr : OpV X (binaryOp .RShift) oShr := opv_int op_shr fun _ _ _ => .int _
abbrev oAnd : DOp := oI0 fun a b => .int (Builtin.bitAnd a b)
theorem opv_and : OpV X (binaryOp .BitAnd) oAnd := opv_i0 op_and fun _ _ _ => .int _
abbrev oOr : DOp := oI0 fun a b => .int (Builtin.bitOr a b)
theorem opv_or : OpV X (binaryOp .BitOr) oOr := opv_i0 op_or fun _ _ _ => .int _
abbrev oLt : DOp := oI0 fun a b => .bool (decide (a < b))
theorem opv_lt : OpV X (compareOp .Lt) oLt := opv_i0 op_lt fun _ _ _ => .bl _
abbrev oLe : DOp := oI0 fun a b => .bool (decide (a ≤ b))
theorem opv_le : OpV X (compareOp .LtE) oLe := opv_i0 op_le fun _ _ _ => .bl _
abbrev oGt : DOp := oI0 fun a b => .bool (decide (b < a))
theorem opv_gt : OpV X (compareOp .Gt) oGt := opv_i0 op_gt fun _ _ _ => .bl _
abbrev oGe : DOp := oI0 fun a b => .bool (decide (b ≤ a))
theorem opv_ge : OpV X (compareOp .GtE) oGe := opv_i0 op_ge fun _ _ _ => .bl _
@[irreducible] def oEq : DOp := fun d1 d2 Q => min d1.depth d2.depth ≤ 60 ∧ Q (.val (.bool (PyData.eqv d1 d2)))
@[irreducible] def oNe : DOp := fun d1 d2 Q => min d1.depth d2.depth ≤ 60 ∧ Q (.val (.bool (!PyData.eqv d1 d2)))
theorem opv_eq (hu : X.A.units + 64 < cLine) : OpV X (compareOp .Eq) oEq :=
  ⟨_, op_eqP hu, fun G ds σ H x y d1 d2 DQ Q R sx sy hq k => by
    unfold oEq at hq
    exact ⟨d1, d2, sx.dp R.sub, sy.dp R.sub, hq.1, k _ _ _ _ hq.2 R (Ext.refl ..) (.bl _) trivial⟩⟩
theorem opv_ne (hu : X.A.units + 64 < cLine) : OpV X (compareOp .NotEq) oNe :=
  ⟨_, op_neP hu, fun G ds σ H x y d1 d2 DQ Q R sx sy hq k => by
    unfold oNe at hq
    exact ⟨d1, d2, sx.dp R.sub, sy.dp R.sub, hq.1, k _ _ _ _ hq.2 R (Ext.refl ..) (.bl _) trivial⟩⟩
def itemsD (d : D) (Q : List D → Prop) : Prop := match d with
  | .list ds => Q ds
  | .tuple ds => Q ds
  | _ => False
theorem itemsD_e {d : D} {Q : List D → Prop} (h : itemsD d Q) : ∃ ds, (d = .list ds ∨ d = .tuple ds) ∧ Q ds := by
  unfold itemsD at h
  split at h
  · exact ⟨_, .inl rfl, h⟩
  · exact ⟨_, .inr rfl, h⟩
  · exact h.elim
@[irreducible] def oIn : DOp := fun d1 d2 Q => itemsD d2 fun ds => min (PyData.depthAll ds) d1.depth ≤ 60 ∧ Q (.val (.bool (ds.any fun z => PyData.eqv z d1)))
@[irreducible] def oNotIn : DOp := fun d1 d2 Q => itemsD d2 fun ds => min (PyData.depthAll ds) d1.depth ≤ 60 ∧ Q (.val (.bool (!ds.any fun z => PyData.eqv z d1)))
theorem opv_in (hu : X.A.units + 64 < cLine) : OpV X (compareOp .In) oIn :=
  ⟨_, op_inP hu, fun G ds σ H x y d1 d2 DQ Q R sx sy hq k => by
    unfold oIn at hq
    obtain ⟨es, he, h1, h2⟩ := itemsD_e hq
    exact ⟨d1, es, d2, sx.dp R.sub, sy.dp R.sub, he, h1, k _ _ _ _ h2 R (Ext.refl ..) (.bl _) trivial⟩⟩
theorem opv_notIn (hu : X.A.units + 64 < cLine) : OpV X (compareOp .NotIn) oNotIn :=
  ⟨_, op_notInP hu, fun G ds σ H x y d1 d2 DQ Q R sx sy hq k => by
    unfold oNotIn at hq
    obtain ⟨es, he, h1, h2⟩ := itemsD_e hq
    exact ⟨d1, es, d2, sx.dp R.sub, sy.dp R.sub, he, h1, k _ _ _ _ h2 R (Ext.refl ..) (.bl _) trivial⟩⟩
def isN : D → Bool
  | .none => true
  | _ => false
theorem sh_isN {K : PySem.W.Frag} {G H : Hp} {v : V} {d : D} (h : Sh K G H v d) : decide (v = .non) = isN d := by
  rcases h with h | ⟨a, o, rfl, _, q⟩
  · cases h <;> rfl
  · cases o <;> cases d <;> first | exact False.elim q | rfl
def oIs : DOp := fun d1 d2 Q => isN d2 = true ∧ Q (.val (.bool (isN d1)))
def oIsNot : DOp := fun d1 d2 Q => isN d2 = true ∧ Q (.val (.bool (!isN d1)))
theorem isN_e {d : D} (h : isN d = true) : d = .none := by cases d <;> first | rfl | cases h
theorem opv_is : OpV X (compareOp .Is) oIs :=
  ⟨_, op_isN, fun G ds σ H x y d1 d2 DQ Q R sx sy hq k => by
    obtain ⟨h1, h2⟩ := hq
    have e := isN_e h1
    subst e
    refine ⟨sy.non, ?_⟩
    rw [sh_isN sx]
    exact k _ _ _ _ h2 R (Ext.refl ..) (.bl _) trivial⟩
theorem opv_isNot : OpV X (compareOp .IsNot) oIsNot :=
  ⟨_, op_notN, fun G ds σ H x y d1 d2 DQ Q R sx sy hq k => by
    obtain ⟨h1, h2⟩ := hq
    have e := isN_e h1
    subst e
    refine ⟨sy.non, ?_⟩
    rw [sh_isN sx]
    exact k _ _ _ _ h2 R (Ext.refl ..) (.bl _) trivial⟩

/-- a new list, a new tuple -/
theorem new_list {K : PySem.W.Frag} {G : Hp} {ds : DS} {σ : St} {H : Hp} (R : Rel K G ds σ H) {vs : List V} {es : List D} (h : DpAll K G vs es) {p : Addr} (n : H p = none) :
    Rel K G ds σ (upd H p (.lst vs)) ∧ Ext ds σ G H ds σ G (upd H p (.lst vs)) ∧ EvR K G ds σ (upd H p (.lst vs)) (.ref p) (.fresh (.list es)) ∧ FrN ds σ H (.ref p) (.fresh (.list es)) :=
  ⟨R.updO n, Ext.updO n, ⟨p, _, rfl, R.gnone n, upd_same, h, R.nOwn n⟩, fun a e => by cases e; exact .inl n⟩
theorem new_tup {K : PySem.W.Frag} {G : Hp} {ds : DS} {σ : St} {H : Hp} (R : Rel K G ds σ H) {vs : List V} {es : List D} (h : DpAll K G vs es) {p : Addr} (n : H p = none) :
    Rel K (upd G p (.tup vs)) ds σ (upd H p (.tup vs)) ∧ Ext ds σ G H ds σ (upd G p (.tup vs)) (upd H p (.tup vs)) ∧ Dp K (upd G p (.tup vs)) (.ref p) (.tuple es) :=
  ⟨(R.newF n).1, (R.newF n).2, .tup (.inl (.inl upd_same)) (DpAll.mo (same_upd' (R.gnone n)) _ _ h)⟩
/-- a tuple that is read stands firm -/
theorem sh_tupD {K : PySem.W.Frag} {G H : Hp} {v : V} {ds : List D} (h : Sh K G H v (.tuple ds)) : Dp K G v (.tuple ds) := by
  rcases h with h | ⟨a, o, rfl, _, q⟩
  · exact h
  · cases o <;> exact False.elim q
def oAdd : DOp := fun d1 d2 Q => match d1, d2 with
  | .int a, .int b => Q (.val (.int (a + b)))
  | .list a, .list b => a.length + b.length ≤ 16777216 ∧ Q (.fresh (.list (a ++ b)))
  | .tuple a, .tuple b => a.length + b.length ≤ 16777216 ∧ Q (.val (.tuple (a ++ b)))
  | .str a, .str b => a.length + b.length ≤ 16777216 ∧ Q (.val (.str (a ++ b)))
  | _, _ => False
theorem opv_add : OpV X (binaryOp .Add) oAdd := by
  have zl : sizeLine = 16777216 := sizeLine_eq
  refine ⟨_, OpR.or op_add (OpR.or op_catL (OpR.or op_catA op_add_str)), fun G ds σ H x y d1 d2 DQ Q R sx sy hq k => ?_⟩
  unfold oAdd at hq
  split at hq
  · exact .inl ⟨_, _, sx.int, sy.int, k _ _ _ _ hq R (Ext.refl ..) (.int _) trivial⟩
  · obtain ⟨a, vs, rfl, q1, q2⟩ := sx.list R.sub
    obtain ⟨b, ws, rfl, q3, q4⟩ := sy.list R.sub
    refine .inr (.inl ⟨a, b, vs, ws, rfl, rfl, q1, q3, by rw [q2.len, q4.len]; omega, fun p hp => ?_⟩)
    obtain ⟨h1, h2, h3, h4⟩ := new_list R (q2.app q4) hp
    exact k _ _ _ _ hq.2 h1 h2 h3 h4
  · obtain ⟨a, vs, rfl, q1, q2⟩ := sx.tuple R.sub
    obtain ⟨b, ws, rfl, q3, q4⟩ := sy.tuple R.sub
    refine .inr (.inr (.inl ⟨a, b, vs, ws, rfl, rfl, q1, q3, by rw [q2.len, q4.len]; omega, fun e => ?_, fun e1 e2 => ?_, fun e1 e2 p hp => ?_⟩))
    · subst e
      cases q2
      exact k _ _ _ _ hq.2 R (Ext.refl ..) (sh_tupD sy) trivial
    · subst e2
      cases q4
      have h2 := hq.2
      rw [List.append_nil] at h2
      exact k _ _ _ _ h2 R (Ext.refl ..) (sh_tupD sx) trivial
    · obtain ⟨h1, h2, h3⟩ := new_tup R (q2.app q4) hp
      exact k _ _ _ _ hq.2 h1 h2 h3 trivial
  · exact .inr (.inr (.inr ⟨_, _, sx.str, sy.str, by omega, k _ _ _ _ hq.2 R (Ext.refl ..) (.str _) trivial⟩))
  · exact hq.elim
end
end PV
end
section
set_option Elab.async false
set_option linter.all false
set_option maxRecDepth 100000
set_option maxHeartbeats 4000000
namespace PV
open PySem L2
section
variable {X : Cx} {pos : Pos}
/-! ### truth -/
def tru (d : D) (Q : Bool → Prop) : Prop := match d with
  | .none => Q false
  | .bool b => Q b
  | .int i => Q (i != 0)
  | .str s => s.length ≤ 16777216 ∧ Q ((s.length : Int) != 0)
  | .list l => Q (!l.isEmpty)
  | .tuple l => Q (!l.isEmpty)
  | .dict _ => False
theorem empty_dp {K : PySem.W.Frag} {G : Hp} {vs : List V} {ds : List D} (h : DpAll K G vs ds) : vs.isEmpty = ds.isEmpty := by cases h <;> rfl
theorem tru_v {K : PySem.W.Frag} {G H : Hp} {v : V} {d : D} {Q : Bool → Prop} (s : Same G H) (h : Sh K G H v d) (q : tru d Q) : ∃ k, TruV K v H k ∧ Q k := by
  have zl : sizeLine = 16777216 := sizeLine_eq
  cases d with
  | none => rw [h.non]; exact ⟨false, rfl, q⟩
  | bool b => rw [h.bool]; exact ⟨b, rfl, q⟩
  | int i => rw [h.int]; exact ⟨_, rfl, q⟩
  | str x => rw [h.str]; exact ⟨_, ⟨by have := q.1; omega, rfl⟩, q.2⟩
  | list l =>
    obtain ⟨a, vs, rfl, h1, h2⟩ := h.list s
    exact ⟨_, .inl ⟨vs, h1, rfl⟩, by rw [empty_dp h2]; exact q⟩
  | tuple l =>
    obtain ⟨a, vs, rfl, h1, h2⟩ := h.tuple s
    exact ⟨_, .inr (.inl ⟨vs, h1, rfl⟩), by rw [empty_dp h2]; exact q⟩
  | dict _ => exact q.elim
def tTr (f : DE) : DT := fun ds Q => f ds fun e ds1 => rd e ds1 fun d => tru d fun b => Q b ds1
theorem pvt_tr {a : Expr} {f : DE} (ha : PVE X a f) (he : ∀ whole, isTrue a X.env whole = (do let v ← whole; standAt a.pos; holding [v] (truthy v)) := by intro _; rfl) : PVT X a (tTr f) := by
  obtain ⟨t, ht, hs⟩ := ha
  refine ⟨_, pt_truth ht he, fun G ds σ H DQ Q R hf k => hs G ds σ H _ _ R hf fun ev ds1 v G1 H1 q R1 x1 r1 n1 => ?_⟩
  obtain ⟨d, sh, q2⟩ := rd_sh R1 r1 q
  obtain ⟨b, h1, h2⟩ := tru_v R1.sub sh q2
  exact ⟨b, h1, k _ _ _ _ h2 R1 x1⟩
/-! ### and, or, not -/
def PVW (X : Cx) (e : Expr) (f : DT) : Prop := ∃ t, PW X e t ∧ ∀ (G : Hp) (ds : DS) (σ : St) (H : Hp) (DQ : Bool → DS → Prop) (Q : Bool → Hp → Prop), Rel X.K G ds σ H → f ds DQ →
  (∀ b ds' G' H', DQ b ds' → Rel X.K G' ds' σ H' → Ext ds σ G H ds' σ G' H' → Q b H') → t σ H Q
theorem PVW.t {e : Expr} {f : DT} (h : PVW X e f) : PVT X e f := by
  obtain ⟨t, h1, h2⟩ := h
  exact ⟨t, h1.pt, h2⟩
def tAnd (f g : DT) : DT := fun ds Q => f ds fun b ds1 => br b (g ds1 Q) (Q false ds1)
def tOr (f g : DT) : DT := fun ds Q => f ds fun b ds1 => br b (Q true ds1) (g ds1 Q)
def tNot (f : DT) : DT := fun ds Q => f ds fun b ds1 => Q (!b) ds1
variable {a b : Expr} {rest : List Expr} {f g : DT}
theorem pvw_and1 (ha : PVT X a f) : PVW X (.BoolOp .And [a] pos) f := by
  obtain ⟨t, h1, h2⟩ := ha
  exact ⟨t, pw_and1 h1, h2⟩
theorem pvw_or1 (ha : PVT X a f) : PVW X (.BoolOp .Or [a] pos) f := by
  obtain ⟨t, h1, h2⟩ := ha
  exact ⟨t, pw_or1 h1, h2⟩
theorem pvw_and (ha : PVT X a f) (hb : PVW X (.BoolOp .And (b :: rest) pos) g) : PVW X (.BoolOp .And (a :: b :: rest) pos) (tAnd f g) := by
  obtain ⟨t, h1, h2⟩ := ha
  obtain ⟨u, g1, g2⟩ := hb
  refine ⟨_, pw_and h1 g1, fun G ds σ H DQ Q R hf k => h2 G ds σ H _ _ R hf fun c ds1 G1 H1 q R1 x1 => ?_⟩
  cases c with
  | true => exact g2 G1 ds1 σ H1 _ _ R1 q fun d ds2 G2 H2 q2 R2 x2 => k _ _ _ _ q2 R2 (x1.trans x2)
  | false => exact k _ _ _ _ q R1 x1
theorem pvw_or (ha : PVT X a f) (hb : PVW X (.BoolOp .Or (b :: rest) pos) g) : PVW X (.BoolOp .Or (a :: b :: rest) pos) (tOr f g) := by
  obtain ⟨t, h1, h2⟩ := ha
  obtain ⟨u, g1, g2⟩ := hb
  refine ⟨_, pw_or h1 g1, fun G ds σ H DQ Q R hf k => h2 G ds σ H _ _ R hf fun c ds1 G1 H1 q R1 x1 => ?_⟩
  cases c with
  | false => exact g2 G1 ds1 σ H1 _ _ R1 q fun d ds2 G2 H2 q2 R2 x2 => k _ _ _ _ q2 R2 (x1.trans x2)
  | true => exact k _ _ _ _ q R1 x1
theorem pvt_not (ha : PVT X a f) : PVT X (.UnaryOp .Not a pos) (tNot f) := by
  obtain ⟨t, h1, h2⟩ := ha
  exact ⟨_, pt_not h1, fun G ds σ H DQ Q R hf k => h2 G ds σ H _ _ R hf fun c ds1 G1 H1 q R1 x1 => k _ _ _ _ q R1 x1⟩
/-- as values: bools -/
def eAnd (f g : DE) : DE := fun ds Q => f ds fun e ds1 => isB e fun b => br b (g ds1 Q) (Q (.val (.bool false)) ds1)
def eOr (f g : DE) : DE := fun ds Q => f ds fun e ds1 => isB e fun b => br b (Q (.val (.bool true)) ds1) (g ds1 Q)
def eNot (f : DE) : DE := fun ds Q => f ds fun e ds1 => isB e fun b => Q (.val (.bool (!b))) ds1
variable {fe ge : DE}
theorem pve_one {op} (h : PVE X a fe) : PVE X (.BoolOp op [a] pos) fe := by
  obtain ⟨t, h1, h2⟩ := h
  exact ⟨t, pe_one h1, h2⟩
theorem pve_and (ha : PVE X a fe) (hb : PVE X (.BoolOp .And (b :: rest) pos) ge) : PVE X (.BoolOp .And (a :: b :: rest) pos) (eAnd fe ge) := by
  obtain ⟨t, h1, h2⟩ := ha
  obtain ⟨u, g1, g2⟩ := hb
  refine ⟨_, pe_and h1 g1, fun G ds σ H DQ Q R hf k => h2 G ds σ H _ _ R hf fun ev ds1 v G1 H1 q R1 x1 r1 n1 => ?_⟩
  obtain ⟨c, e1, e2, q2⟩ := isB_v r1 q
  refine ⟨c, e1, ?_⟩
  cases c with
  | true => exact g2 G1 ds1 σ H1 _ _ R1 q2 fun ev ds2 v G2 H2 q2 R2 x2 r2 n2 => k _ _ _ _ _ q2 R2 (x1.trans x2) r2 (x1.back n2)
  | false => exact k _ _ _ _ _ q2 R1 x1 (.bl _) trivial
theorem pve_or (ha : PVE X a fe) (hb : PVE X (.BoolOp .Or (b :: rest) pos) ge) : PVE X (.BoolOp .Or (a :: b :: rest) pos) (eOr fe ge) := by
  obtain ⟨t, h1, h2⟩ := ha
  obtain ⟨u, g1, g2⟩ := hb
  refine ⟨_, pe_or h1 g1, fun G ds σ H DQ Q R hf k => h2 G ds σ H _ _ R hf fun ev ds1 v G1 H1 q R1 x1 r1 n1 => ?_⟩
  obtain ⟨c, e1, e2, q2⟩ := isB_v r1 q
  refine ⟨c, e1, ?_⟩
  cases c with
  | false => exact g2 G1 ds1 σ H1 _ _ R1 q2 fun ev ds2 v G2 H2 q2 R2 x2 r2 n2 => k _ _ _ _ _ q2 R2 (x1.trans x2) r2 (x1.back n2)
  | true => exact k _ _ _ _ _ q2 R1 x1 (.bl _) trivial
theorem pve_not (ha : PVE X a fe) : PVE X (.UnaryOp .Not a pos) (eNot fe) := by
  obtain ⟨t, h1, h2⟩ := ha
  refine ⟨_, pe_not h1, fun G ds σ H DQ Q R hf k => h2 G ds σ H _ _ R hf fun ev ds1 v G1 H1 q R1 x1 r1 n1 => ?_⟩
  obtain ⟨c, e1, e2, q2⟩ := isB_v r1 q
  exact ⟨c, e1, k _ _ _ _ _ q2 R1 x1 (.bl _) trivial⟩
def eIf (t : DT) (f g : DE) : DE := fun ds Q => t ds fun b ds1 => br b (f ds1 Q) (g ds1 Q)
theorem pve_if {c : Expr} {tc : DT} (hc : PVT X c tc) (ha : PVE X a fe) (hb : PVE X b ge) : PVE X (.IfExp c a b pos) (eIf tc fe ge) := by
  obtain ⟨t, h1, h2⟩ := hc
  obtain ⟨u, g1, g2⟩ := ha
  obtain ⟨w, k1, k2⟩ := hb
  refine ⟨_, pe_ifExp h1 g1 k1, fun G ds σ H DQ Q R hf k => h2 G ds σ H _ _ R hf fun c ds1 G1 H1 q R1 x1 => ?_⟩
  cases c with
  | true => exact g2 G1 ds1 σ H1 _ _ R1 q fun ev ds2 v G2 H2 q2 R2 x2 r2 n2 => k _ _ _ _ _ q2 R2 (x1.trans x2) r2 (x1.back n2)
  | false => exact k2 G1 ds1 σ H1 _ _ R1 q fun ev ds2 v G2 H2 q2 R2 x2 r2 n2 => k _ _ _ _ _ q2 R2 (x1.trans x2) r2 (x1.back n2)
/-- a test that is an if expression's, a name's, a call's value goes by truth; - e -/
def eNeg (f : DE) : DE := fun ds Q => f ds fun e ds1 => rd e ds1 fun d => match d with
  | .int i => Q (.val (.int (-i))) ds1
  | _ => False
theorem pve_neg (ha : PVE X a fe) : PVE X (.UnaryOp .USub a pos) (eNeg fe) := by
  obtain ⟨t, h1, h2⟩ := ha
  refine ⟨_, pe_un un_neg h1, fun G ds σ H DQ Q R hf k => h2 G ds σ H _ _ R hf fun ev ds1 v G1 H1 q R1 x1 r1 n1 => ?_⟩
  obtain ⟨d, sh, q2⟩ := rd_sh R1 r1 q
  split at q2
  · exact ⟨_, sh.int, k _ _ _ _ _ q2 R1 x1 (.int _) trivial⟩
  · exact q2.elim

/-! ### places -/
def atD {α : Type} (xs : List α) (i : Int) (Q : α → Prop) : Prop := match atI xs i with
  | some d => Q d
  | none => False
def oIx : DOp := fun d1 d2 Q => match d1, d2 with
  | .list l, .int i => atD l i fun d => Q (.val d)
  | .tuple l, .int i => atD l i fun d => Q (.val d)
  | .str s, .int i => s.length ≤ 16777216 ∧ atD s.cps.toList i fun c => Q (.val (.str ⟨#[c]⟩))
  | _, _ => False
theorem atD_v {K : PySem.W.Frag} {G : Hp} {vs : List V} {ds : List D} (h : DpAll K G vs ds) {i : Int} {Q : D → Prop} (q : atD ds i Q) : ∃ v d, atI vs i = some v ∧ Dp K G v d ∧ Q d := by
  unfold atD at q
  split at q
  · rename_i d e
    unfold atI at e ⊢
    rw [h.len]
    cases e1 : ixN ds.length i with
    | none => rw [e1] at e; cases e
    | some j =>
      rw [e1] at e
      obtain ⟨v, h1, h2⟩ := h.get (show ds[j]? = some d from e)
      exact ⟨v, d, h1, h2, q⟩
  · exact q.elim
def eIx (f g : DE) : DE := eOp oIx f g
theorem pve_ix {a b : Expr} {fe ge : DE} (ha : PVE X a fe) (hb : PVE X b ge) (hs : PlainIx b := by intro _ _; rfl) : PVE X (.Subscript a b pos) (eIx fe ge) := by
  have zl : sizeLine = 16777216 := sizeLine_eq
  obtain ⟨ta, tb, h1, h2, hk⟩ := bin_ok ha hb
  refine ⟨_, pe_ix ix_seq h1 h2 hs, fun G ds σ H DQ Q R hf k => hk G ds σ H _ _ R hf fun x y d1 d2 ds' G' H' q R' x' sx sy => ?_⟩
  unfold oIx at q
  split at q
  · obtain ⟨a, vs, rfl, q1, q2⟩ := sx.list R'.sub
    obtain ⟨v, d, e1, e2, q3⟩ := atD_v q2 q
    exact .inl ⟨a, vs, _, v, rfl, sy.int, q1, e1, k _ _ _ _ _ q3 R' x' e2 trivial⟩
  · obtain ⟨a, vs, rfl, q1, q2⟩ := sx.tuple R'.sub
    obtain ⟨v, d, e1, e2, q3⟩ := atD_v q2 q
    exact .inr (.inl ⟨a, vs, _, v, rfl, sy.int, q1, e1, k _ _ _ _ _ q3 R' x' e2 trivial⟩)
  · obtain ⟨q1, q2⟩ := q
    unfold atD at q2
    split at q2
    · rename_i c e
      exact .inr (.inr ⟨_, _, c, sx.str, sy.int, by omega, e, k _ _ _ _ _ q2 R' x' (.str _) trivial⟩)
    · exact q2.elim
  · exact q.elim
/-! ### slices -/
def cutG {α : Type} (xs : List α) (lo hi : Option Int) : List α := (xs.drop (HT.sIx xs.length 0 lo)).take (HT.sIx xs.length xs.length hi - HT.sIx xs.length 0 lo)
abbrev DO := DS → (Option Int → DS → Prop) → Prop
def PVO (X : Cx) (e : Option Expr) (f : DO) : Prop := ∃ t, PO X e t ∧ ∀ (G : Hp) (ds : DS) (σ : St) (H : Hp) (DQ : Option Int → DS → Prop) (Q : Option Int → Hp → Prop), Rel X.K G ds σ H → f ds DQ →
  (∀ b ds' G' H', DQ b ds' → Rel X.K G' ds' σ H' → Ext ds σ G H ds' σ G' H' → Q b H') → t σ H Q
def pNo : DO := fun ds Q => Q none ds
def pSome (f : DE) : DO := fun ds Q => f ds fun e ds1 => rd e ds1 fun d => match d with
  | .int i => Q (some i) ds1
  | _ => False
theorem pvo_none : PVO X none pNo := ⟨_, po_none, fun G ds σ H DQ Q R hf k => k _ _ _ _ hf R (Ext.refl ..)⟩
theorem pvo_some {e : Expr} {f : DE} (h : PVE X e f) : PVO X (some e) (pSome f) := by
  obtain ⟨t, h1, h2⟩ := h
  refine ⟨_, po_some h1, fun G ds σ H DQ Q R hf k => h2 G ds σ H _ _ R hf fun ev ds1 v G1 H1 q R1 x1 r1 n1 => ?_⟩
  obtain ⟨d, sh, q2⟩ := rd_sh R1 r1 q
  split at q2
  · exact ⟨_, sh.int, k _ _ _ _ q2 R1 x1⟩
  · exact q2.elim
def oSl (d : D) (lo hi : Option Int) (Q : Ev → Prop) : Prop := match d with
  | .list l => Q (.fresh (.list (cutG l lo hi)))
  | .tuple l => Q (.val (.tuple (cutG l lo hi)))
  | .str s => s.length ≤ 16777216 ∧ Q (.val (.str (cutS s lo hi)))
  | _ => False
def eSl (f : DE) (lo hi : DO) : DE := fun ds Q => f ds fun e ds1 => lo ds1 fun l ds2 => hi ds2 fun h ds3 => rd (nm e) ds3 fun d => oSl d l h fun ev => Q ev ds3
theorem pve_sl {e : Expr} {lo hi : Option Expr} {f : DE} {l h : DO} {p2 : Pos} (he : PVE X e f) (hl : PVO X lo l) (hh : PVO X hi h) : PVE X (.Subscript e (.Slice lo hi none p2) pos) (eSl f l h) := by
  have zl : sizeLine = 16777216 := sizeLine_eq
  obtain ⟨t, h1, h2⟩ := he
  obtain ⟨u, g1, g2⟩ := hl
  obtain ⟨w, k1, k2⟩ := hh
  refine ⟨_, pe_slice (SlR.or sl_list (SlR.or sl_tupA sl_str)) h1 g1 k1, fun G ds σ H DQ Q R hf k => h2 G ds σ H _ _ R hf fun e1 ds1 v1 G1 H1 q1 R1 x1 r1 n1 => ?_⟩
  obtain ⟨G1', R1', x1', r1'⟩ := nm_ok R1 x1 r1 n1
  refine g2 G1' ds1 σ H1 _ _ R1' q1 fun lo' ds2 G2 H2 q2 R2 x2 => k2 G2 ds2 σ H2 _ _ R2 q2 fun hi' ds3 G3 H3 q3 R3 x3 => ?_
  obtain ⟨d, sh, q4⟩ := rd_sh (v := v1) R3 (nm_stay (x2.gg.trans x3.gg) r1') q3
  have xx := x1'.trans (x2.trans x3)
  unfold oSl at q4
  split at q4
  · rename_i l0
    obtain ⟨a, vs, rfl, q5, q6⟩ := sh.list R3.sub
    refine .inl ⟨a, vs, rfl, q5, fun p hp => ?_⟩
    have q7 : DpAll X.K G3 (cutV vs lo' hi') (cutG l0 lo' hi') := by
      unfold cutV cutG
      rw [q6.len]
      exact DpAll.take _ (DpAll.drop _ q6)
    obtain ⟨z1, z2, z3, z4⟩ := new_list R3 q7 hp
    exact k _ _ _ _ _ q4 z1 (xx.trans z2) z3 (xx.back z4)
  · rename_i l0
    obtain ⟨a, vs, rfl, q5, q6⟩ := sh.tuple R3.sub
    refine .inr (.inl ⟨a, vs, rfl, q5, fun e => ?_, fun e p hp => ?_⟩)
    · have q7 : cutG l0 lo' hi' = l0 := by
        unfold cutG
        rw [← q6.len, e.1, e.2, List.drop_zero, Nat.sub_zero, q6.len]
        exact List.take_length
      rw [q7] at q4
      exact k _ _ _ _ _ q4 R3 xx (sh_tupD sh) trivial
    · have q7 : DpAll X.K G3 (cutV vs lo' hi') (cutG l0 lo' hi') := by
        unfold cutV cutG
        rw [q6.len]
        exact DpAll.take _ (DpAll.drop _ q6)
      obtain ⟨z1, z2, z3⟩ := new_tup R3 q7 hp
      exact k _ _ _ _ _ q4 z1 (xx.trans z2) z3 trivial
  · exact .inr (.inr ⟨_, sh.str, by omega, k _ _ _ _ _ q4.2 R3 xx (.str _) trivial⟩)
  · exact q4.elim

/-! ### argument lists -/
abbrev DA := DS → (List Ev → DS → Prop) → Prop
/-- every one kept across the others -/
def EvsR (K : PySem.W.Frag) (G : Hp) (ds : DS) (σ : St) (H : Hp) : List V → List Ev → Prop := Paired fun v e => EvR K G ds σ H v e ∧ nm e = e
def PVA (X : Cx) (es : List Expr) (f : DA) : Prop := ∃ t, PA X es t ∧ ∀ (G : Hp) (ds : DS) (σ : St) (H : Hp) (DQ : List Ev → DS → Prop) (Q : List V → Hp → Prop), Rel X.K G ds σ H → f ds DQ →
  (∀ evs ds' vs G' H', DQ evs ds' → Rel X.K G' ds' σ H' → Ext ds σ G H ds' σ G' H' → EvsR X.K G' ds' σ H' vs evs → Q vs H') → t σ H Q
def aNil : DA := fun ds Q => Q [] ds
def aCons (f : DE) (g : DA) : DA := fun ds Q => f ds fun e ds1 => g ds1 fun es ds2 => Q (nm e :: es) ds2
theorem pva_nil : PVA X [] aNil := ⟨_, pa_nil, fun G ds σ H DQ Q R hf k => k _ _ _ _ _ hf R (Ext.refl ..) .nil⟩
theorem nm_nm (e : Ev) : nm (nm e) = nm e := by cases e <;> rfl
theorem pva_cons {e : Expr} {es : List Expr} {f : DE} {g : DA} (he : PVE X e f) (hr : PVA X es g) (hs : starEach (e :: es) X.env = (false, eval e X.env) :: starEach es X.env := by rfl) : PVA X (e :: es) (aCons f g) := by
  obtain ⟨t, h1, h2⟩ := he
  obtain ⟨u, g1, g2⟩ := hr
  refine ⟨_, pa_cons h1 g1 hs, fun G ds σ H DQ Q R hf k => h2 G ds σ H _ _ R hf fun e1 ds1 v1 G1 H1 q1 R1 x1 r1 n1 => ?_⟩
  obtain ⟨G1', R1', x1', r1'⟩ := nm_ok R1 x1 r1 n1
  refine g2 G1' ds1 σ H1 _ _ R1' q1 fun es ds2 vs G2 H2 q2 R2 x2 r2 => ?_
  exact k _ _ _ _ _ q2 R2 (x1'.trans x2) (.cons ⟨nm_stay x2.gg r1', nm_nm _⟩ r2)
def rdAll : List Ev → DS → (List D → Prop) → Prop
  | [], _, Q => Q []
  | e :: es, ds, Q => rd e ds fun d => rdAll es ds fun r => Q (d :: r)
def ShAll (K : PySem.W.Frag) (G H : Hp) : List V → List D → Prop := Paired fun v d => Sh K G H v d
theorem rdAll_sh {K : PySem.W.Frag} {G : Hp} {ds : DS} {σ : St} {H : Hp} (R : Rel K G ds σ H) : ∀ {vs : List V} {es : List Ev} {Q : List D → Prop}, EvsR K G ds σ H vs es → rdAll es ds Q → ∃ xs, ShAll K G H vs xs ∧ Q xs
  | _, _, _, .nil, q => ⟨[], .nil, q⟩
  | _, _, _, .cons h t, q => by
    obtain ⟨d, s1, q1⟩ := rd_sh R h.1 q
    obtain ⟨xs, s2, q2⟩ := rdAll_sh R t q1
    exact ⟨d :: xs, .cons s1 s2, q2⟩
/-- all made firm, for a display -/
def frzAll : List Ev → DS → (List D → DS → Prop) → Prop
  | [], ds, Q => Q [] ds
  | e :: es, ds, Q => frz e ds fun d ds1 => frzAll es ds1 fun r ds2 => Q (d :: r) ds2
theorem nm_FrN {ds : DS} {σ : St} {H : Hp} {v : V} {e : Ev} (h : nm e = e) : FrN ds σ H v e := by
  cases e with
  | fresh d => cases h
  | _ => trivial
theorem EvsR.mo {K : PySem.W.Frag} {G : Hp} {ds : DS} {σ : St} {H : Hp} {G' : Hp} {ds' : DS} {H' : Hp} (x : Same G G') : ∀ {vs : List V} {es : List Ev}, EvsR K G ds σ H vs es → EvsR K G' ds' σ H' vs es
  | _, _, .nil => .nil
  | _, _, .cons h t => .cons ⟨by rw [← h.2]; exact nm_stay x (by rw [h.2]; exact h.1), h.2⟩ (EvsR.mo x t)
theorem frzAll_ok {K : PySem.W.Frag} {σ : St} {H : Hp} : ∀ {vs : List V} {es : List Ev} {G : Hp} {ds : DS} {DQ : List D → DS → Prop}, Rel K G ds σ H → EvsR K G ds σ H vs es → frzAll es ds DQ →
    ∃ xs ds' G', DQ xs ds' ∧ Rel K G' ds' σ H ∧ DpAll K G' vs xs ∧ Ext ds σ G H ds' σ G' H
  | _, _, G, ds, _, R, .nil, q => ⟨[], ds, G, q, R, .nil, Ext.refl ..⟩
  | _, _, G, ds, _, R, .cons h t, q => by
    obtain ⟨d, ds1, G1, q1, R1, p1, x1⟩ := frz_ext R (Ext.refl ..) h.1 (nm_FrN h.2) q
    obtain ⟨xs, ds2, G2, q2, R2, p2, x2⟩ := frzAll_ok R1 (EvsR.mo x1.gg t) q1
    exact ⟨d :: xs, ds2, G2, q2, R2, .cons (Dp.mo x2.gg _ _ p1) p2, x1.trans x2⟩
def whenB (b : Bool) (P : Prop) : Prop := match b with
  | true => P
  | false => False
theorem whenB_e {b : Bool} {P : Prop} (h : whenB b P) : b = true ∧ P := by
  cases b with
  | true => exact ⟨rfl, h⟩
  | false => exact False.elim h
def lenIs {α : Type} : List α → Nat → Bool
  | [], 0 => true
  | _ :: es, n + 1 => lenIs es n
  | _, _ => false
theorem lenIs_e {α : Type} : ∀ {es : List α} {n : Nat}, lenIs es n = true → es.length = n
  | [], 0, _ => rfl
  | _ :: es, n + 1, h => congrArg (· + 1) (lenIs_e (es := es) h)
  | [], _ + 1, h => by cases h
  | _ :: _, 0, h => by cases h
/-- a short list (by its cells) -/
def shortL : Nat → List D → Bool
  | _, [] => true
  | n + 1, _ :: r => shortL n r
  | 0, _ :: _ => false
theorem shortL_e : ∀ {n : Nat} {l : List D}, shortL n l = true → l.length ≤ n
  | _, [], _ => Nat.zero_le _
  | n + 1, _ :: r, h => Nat.succ_le_succ (shortL_e (l := r) h)
  | 0, _ :: _, h => by cases h
def eTup (f : DA) : DE := fun ds Q => f ds fun es ds1 => frzAll es ds1 fun xs ds2 => whenB (shortL 64 xs) (Q (.val (.tuple xs)) ds2)
def eLst (f : DA) : DE := fun ds Q => f ds fun es ds1 => frzAll es ds1 fun xs ds2 => whenB (shortL 64 xs) (Q (.fresh (.list xs)) ds2)
theorem pve_tup {es : List Expr} {f : DA} {x1} (h : PVA X es f) : PVE X (.Tuple es x1 pos) (eTup f) := by
  have zl : sizeLine = 16777216 := sizeLine_eq
  obtain ⟨t, h1, h2⟩ := h
  refine ⟨_, pe_tup h1, fun G ds σ H DQ Q R hf k => h2 G ds σ H _ _ R hf fun es ds1 vs G1 H1 q1 R1 x1 r1 => ?_⟩
  obtain ⟨xs, ds2, G2, q2, R2, p2, x2⟩ := frzAll_ok R1 r1 q1
  obtain ⟨sh, q2⟩ := whenB_e q2
  have sh := shortL_e sh
  refine ⟨by rw [p2.len]; omega, fun p hp => ?_⟩
  obtain ⟨z1, z2, z3⟩ := new_tup R2 p2 hp
  exact k _ _ _ _ _ q2 z1 (x1.trans (x2.trans z2)) z3 trivial
theorem pve_lst {es : List Expr} {f : DA} (h : PVA X es f) : PVE X (.List es pos) (eLst f) := by
  have zl : sizeLine = 16777216 := sizeLine_eq
  obtain ⟨t, h1, h2⟩ := h
  refine ⟨_, pe_lst h1, fun G ds σ H DQ Q R hf k => h2 G ds σ H _ _ R hf fun es ds1 vs G1 H1 q1 R1 x1 r1 => ?_⟩
  obtain ⟨xs, ds2, G2, q2, R2, p2, x2⟩ := frzAll_ok R1 r1 q1
  obtain ⟨sh, q2⟩ := whenB_e q2
  have sh := shortL_e sh
  refine ⟨by rw [p2.len]; omega, fun p hp => ?_⟩
  obtain ⟨z1, z2, z3, z4⟩ := new_list R2 p2 hp
  exact k _ _ _ _ _ q2 z1 (x1.trans (x2.trans z2)) z3 (x1.back (x2.back z4))

/-! ### calls of built-ins that read their arguments -/
abbrev DC := List D → (Ev → Prop) → Prop
def CallV (X : Cx) (f : Value) (op : DC) : Prop := ∃ r, CallR X f r ∧ ∀ (G : Hp) (ds : DS) (σ : St) (H : Hp) (vs : List V) (xs : List D) (DQ : Ev → Prop) (Q : VK), Rel X.K G ds σ H → ShAll X.K G H vs xs → op xs DQ →
  (∀ ev v G' H', DQ ev → Rel X.K G' ds σ H' → Ext ds σ G H ds σ G' H' → EvR X.K G' ds σ H' v ev → FrN ds σ H v ev → Q v H') → r vs H Q
def eBi (op : DC) (f : DA) : DE := fun ds Q => f ds fun es ds1 => rdAll es ds1 fun xs => op xs fun ev => Q ev ds1
variable {x : Str} {p : Pos} {es : List Expr} {id T : String} {op : DC} {fa : DA} {e : Expr}
theorem pve_bi (hc : CallV X (.builtin id) op) (hg : Gl X x) (hm : X.mg x = none) (hv : bootBuiltins x = some (.builtin id)) (ha : PVA X (e :: es) fa) (hn : x ≠ "__name__" := by decide) (hdb : (x == ("__debug__" : Str)) = false := by decide)
    (he : starEach (e :: es) X.env = (false, eval e X.env) :: starEach es X.env := by rfl) (hpl : (backTo pos (starEach es X.env)).any (·.1) = false := by rfl) : PVE X (.Call (.Name x p) (e :: es) [] pos) (eBi op fa) := by
  obtain ⟨r, c1, c2⟩ := hc
  obtain ⟨t, h1, h2⟩ := ha
  refine ⟨_, pe_callB c1 hg hm hv h1 hn hdb he hpl, fun G ds σ H DQ Q R hf k => h2 G ds σ H _ _ R hf fun es ds1 vs G1 H1 q1 R1 x1 r1 => ?_⟩
  obtain ⟨xs, s1, q2⟩ := rdAll_sh R1 r1 q1
  exact c2 G1 ds1 σ H1 vs xs _ Q R1 s1 q2 fun ev v G2 H2 q R2 x2 r2 n2 => k _ _ _ _ _ q R2 (x1.trans x2) r2 (x1.back n2)
theorem pve_ty (hc : CallV X (.type T) op) (hg : Gl X x) (hm : X.mg x = none) (hv : bootBuiltins x = some (.type T)) (ha : PVA X (e :: es) fa) (hn : x ≠ "__name__" := by decide) (hdb : (x == ("__debug__" : Str)) = false := by decide)
    (he : starEach (e :: es) X.env = (false, eval e X.env) :: starEach es X.env := by rfl) (hpl : (backTo pos (starEach es X.env)).any (·.1) = false := by rfl) : PVE X (.Call (.Name x p) (e :: es) [] pos) (eBi op fa) := by
  obtain ⟨r, c1, c2⟩ := hc
  obtain ⟨t, h1, h2⟩ := ha
  refine ⟨_, pe_callTy c1 hg hm hv h1 hn hdb he hpl, fun G ds σ H DQ Q R hf k => h2 G ds σ H _ _ R hf fun es ds1 vs G1 H1 q1 R1 x1 r1 => ?_⟩
  obtain ⟨xs, s1, q2⟩ := rdAll_sh R1 r1 q1
  exact c2 G1 ds1 σ H1 vs xs _ Q R1 s1 q2 fun ev v G2 H2 q R2 x2 r2 n2 => k _ _ _ _ _ q R2 (x1.trans x2) r2 (x1.back n2)
theorem sha1 {K : PySem.W.Frag} {G H : Hp} {vs : List V} {d : D} (h : ShAll K G H vs [d]) : ∃ v, vs = [v] ∧ Sh K G H v d := by
  cases h with
  | cons h t => cases t; exact ⟨_, rfl, h⟩
theorem sha2 {K : PySem.W.Frag} {G H : Hp} {vs : List V} {d e : D} (h : ShAll K G H vs [d, e]) : ∃ v w, vs = [v, w] ∧ Sh K G H v d ∧ Sh K G H w e := by
  cases h with
  | cons h t =>
    cases t with
    | cons h' t => cases t; exact ⟨_, _, rfl, h, h'⟩
def cLen : DC := fun xs Q => match xs with
  | [.list l] => Q (.val (.int l.length))
  | [.tuple l] => Q (.val (.int l.length))
  | [.str s] => s.length ≤ 16777216 ∧ Q (.val (.int s.length))
  | _ => False
theorem cv_len : CallV X (.builtin "len") cLen := by
  have zl : sizeLine = 16777216 := sizeLine_eq
  refine ⟨_, call_len, fun G ds σ H vs xs DQ Q R sh hq k => ?_⟩
  unfold cLen at hq
  split at hq
  · obtain ⟨v, rfl, s⟩ := sha1 sh
    obtain ⟨a, vs, rfl, q5, q6⟩ := s.list R.sub
    exact ⟨_, vs.length, rfl, .inl ⟨vs, q5, rfl⟩, k _ _ _ _ hq R (Ext.refl ..) (by rw [q6.len]; exact .int _) trivial⟩
  · obtain ⟨v, rfl, s⟩ := sha1 sh
    obtain ⟨a, vs, rfl, q5, q6⟩ := s.tuple R.sub
    exact ⟨_, vs.length, rfl, .inr ⟨vs, q5, rfl⟩, k _ _ _ _ hq R (Ext.refl ..) (by rw [q6.len]; exact .int _) trivial⟩
  · obtain ⟨v, rfl, s⟩ := sha1 sh
    exact ⟨_, _, rfl, by rw [s.str]; exact ⟨by omega, rfl⟩, k _ _ _ _ hq.2 R (Ext.refl ..) (.int _) trivial⟩
  · exact hq.elim
def cList : DC := fun xs Q => match xs with
  | [.list l] => Q (.fresh (.list l))
  | [.tuple l] => Q (.fresh (.list l))
  | _ => False
theorem cv_list : CallV X (.type "list") cList := by
  refine ⟨_, call_list_of, fun G ds σ H vs xs DQ Q R sh hq k => ?_⟩
  unfold cList at hq
  split at hq
  · obtain ⟨v, rfl, s⟩ := sha1 sh
    obtain ⟨a, vs, rfl, q5, q6⟩ := s.list R.sub
    refine ⟨a, vs, rfl, .inl q5, fun l hl => ?_⟩
    obtain ⟨z1, z2, z3, z4⟩ := new_list R q6 hl
    exact k _ _ _ _ hq z1 z2 z3 z4
  · obtain ⟨v, rfl, s⟩ := sha1 sh
    obtain ⟨a, vs, rfl, q5, q6⟩ := s.tuple R.sub
    refine ⟨a, vs, rfl, .inr q5, fun l hl => ?_⟩
    obtain ⟨z1, z2, z3, z4⟩ := new_list R q6 hl
    exact k _ _ _ _ hq z1 z2 z3 z4
  · exact hq.elim
def cTuple : DC := fun xs Q => match xs with
  | [.list l] => Q (.val (.tuple l))
  | [.tuple l] => Q (.val (.tuple l))
  | _ => False
theorem cv_tuple : CallV X (.type "tuple") cTuple := by
  refine ⟨_, call_tuple_of, fun G ds σ H vs xs DQ Q R sh hq k => ?_⟩
  unfold cTuple at hq
  split at hq
  · obtain ⟨v, rfl, s⟩ := sha1 sh
    obtain ⟨a, vs, rfl, q5, q6⟩ := s.list R.sub
    refine ⟨a, vs, rfl, .inl ⟨q5, fun l hl => ?_⟩⟩
    obtain ⟨z1, z2, z3⟩ := new_tup R q6 hl
    exact k _ _ _ _ hq z1 z2 z3 trivial
  · obtain ⟨v, rfl, s⟩ := sha1 sh
    obtain ⟨a, vs, rfl, q5, q6⟩ := s.tuple R.sub
    exact ⟨a, vs, rfl, .inr ⟨q5, k _ _ _ _ hq R (Ext.refl ..) (sh_tupD s) trivial⟩⟩
  · exact hq.elim
def cInt : DC := fun xs Q => match xs with
  | [.int i] => Q (.val (.int i))
  | [.bool b] => Q (.val (.int (if b then 1 else 0)))
  | _ => False
theorem cv_int : CallV X (.type "int") cInt := by
  refine ⟨_, call_int1, fun G ds σ H vs xs DQ Q R sh hq k => ?_⟩
  unfold cInt at hq
  split at hq
  · obtain ⟨v, rfl, s⟩ := sha1 sh
    exact .inl ⟨_, by rw [s.int], k _ _ _ _ hq R (Ext.refl ..) (.int _) trivial⟩
  · obtain ⟨v, rfl, s⟩ := sha1 sh
    exact .inr ⟨_, by rw [s.bool], k _ _ _ _ hq R (Ext.refl ..) (.int _) trivial⟩
  · exact hq.elim
def cAbs : DC := fun xs Q => match xs with
  | [.int i] => Q (.val (.int (if i < 0 then -i else i)))
  | _ => False
theorem cv_abs : CallV X (.builtin "abs") cAbs := by
  refine ⟨_, call_abs, fun G ds σ H vs xs DQ Q R sh hq k => ?_⟩
  unfold cAbs at hq
  split at hq
  · obtain ⟨v, rfl, s⟩ := sha1 sh
    exact ⟨_, by rw [s.int], k _ _ _ _ hq R (Ext.refl ..) (.int _) trivial⟩
  · exact hq.elim
/-- the items are ints, bools -/
def intsOf : List D → (List Int → Prop) → Prop
  | [], Q => Q []
  | .int i :: r, Q => intsOf r fun l => Q (i :: l)
  | _ :: _, _ => False
theorem intsOf_e : ∀ {l : List D} {Q : List Int → Prop}, intsOf l Q → ∃ ns, l = ns.map PyData.int ∧ Q ns
  | [], _, h => ⟨[], rfl, h⟩
  | .int i :: r, Q, h => by
    obtain ⟨ns, e, q⟩ := intsOf_e (l := r) h
    exact ⟨i :: ns, by rw [e]; rfl, q⟩
  | .none :: _, _, h => h.elim
  | .bool _ :: _, _, h => h.elim
  | .str _ :: _, _, h => h.elim
  | .list _ :: _, _, h => h.elim
  | .tuple _ :: _, _, h => h.elim
  | .dict _ :: _, _, h => h.elim
theorem intsOf_map : ∀ {ns : List Int} {Q : List Int → Prop}, intsOf (ns.map PyData.int) Q ↔ Q ns
  | [], _ => Iff.rfl
  | n :: ns, Q => by
    show intsOf (ns.map PyData.int) (fun l => Q (n :: l)) ↔ _
    rw [intsOf_map]
def boolsOf : List D → (List Bool → Prop) → Prop
  | [], Q => Q []
  | .bool i :: r, Q => boolsOf r fun l => Q (i :: l)
  | _ :: _, _ => False
theorem boolsOf_e : ∀ {l : List D} {Q : List Bool → Prop}, boolsOf l Q → ∃ ns, l = ns.map PyData.bool ∧ Q ns
  | [], _, h => ⟨[], rfl, h⟩
  | .bool i :: r, Q, h => by
    obtain ⟨ns, e, q⟩ := boolsOf_e (l := r) h
    exact ⟨i :: ns, by rw [e]; rfl, q⟩
  | .none :: _, _, h => h.elim
  | .int _ :: _, _, h => h.elim
  | .str _ :: _, _, h => h.elim
  | .list _ :: _, _, h => h.elim
  | .tuple _ :: _, _, h => h.elim
  | .dict _ :: _, _, h => h.elim
theorem boolsOf_map : ∀ {ns : List Bool} {Q : List Bool → Prop}, boolsOf (ns.map PyData.bool) Q ↔ Q ns
  | [], _ => Iff.rfl
  | n :: ns, Q => by
    show boolsOf (ns.map PyData.bool) (fun l => Q (n :: l)) ↔ _
    rw [boolsOf_map]
def cSum : DC := fun xs Q => match xs with
  | [.list l] => intsOf l fun ns => Q (.val (.int ns.sum))
  | _ => False
theorem cv_sum (hc : X.calm = true) : CallV X (.builtin "sum") cSum := by
  refine ⟨_, cr_sum hc, fun G ds σ H vs xs DQ Q R sh hq k => ?_⟩
  unfold cSum at hq
  split at hq
  · obtain ⟨v, rfl, s⟩ := sha1 sh
    obtain ⟨ns, rfl, q⟩ := intsOf_e hq
    obtain ⟨a, vs, rfl, q5, q6⟩ := s.list R.sub
    rw [q6.intsV] at q5
    exact ⟨a, ns, rfl, q5, k _ _ _ _ q R (Ext.refl ..) (.int _) trivial⟩
  · exact hq.elim
def leastI : List Int → Int
  | [] => 0
  | a :: r => r.foldl (fun m y => if y < m then y else m) a
def mostI : List Int → Int
  | [] => 0
  | a :: r => r.foldl (fun m y => if m < y then y else m) a
theorem leastF : ∀ (r : List Int) (a : Int), (r.foldl (fun m y => if y < m then y else m) a) ∈ a :: r ∧ ∀ y ∈ a :: r, r.foldl (fun m y => if y < m then y else m) a ≤ y
  | [], a => ⟨List.mem_cons_self, fun y h => by simp at h; subst h; exact Int.le_refl _⟩
  | b :: r, a => by
    rw [List.foldl_cons]
    obtain ⟨h1, h2⟩ := leastF r (if b < a then b else a)
    constructor
    · rcases List.mem_cons.mp h1 with e | e
      · rw [e]; split <;> simp
      · exact List.mem_cons_of_mem _ (List.mem_cons_of_mem _ e)
    · intro y hy
      have h3 := h2 _ List.mem_cons_self
      have h4 : (if b < a then b else a) ≤ b ∧ (if b < a then b else a) ≤ a := by split <;> omega
      rcases List.mem_cons.mp hy with e | hy
      · rw [e]; exact Int.le_trans h3 h4.2
      · rcases List.mem_cons.mp hy with e | hy
        · rw [e]; exact Int.le_trans h3 h4.1
        · exact h2 y (List.mem_cons_of_mem _ hy)
theorem mostF : ∀ (r : List Int) (a : Int), (r.foldl (fun m y => if m < y then y else m) a) ∈ a :: r ∧ ∀ y ∈ a :: r, y ≤ r.foldl (fun m y => if m < y then y else m) a
  | [], a => ⟨List.mem_cons_self, fun y h => by simp at h; subst h; exact Int.le_refl _⟩
  | b :: r, a => by
    rw [List.foldl_cons]
    obtain ⟨h1, h2⟩ := mostF r (if a < b then b else a)
    constructor
    · rcases List.mem_cons.mp h1 with e | e
      · rw [e]; split <;> simp
      · exact List.mem_cons_of_mem _ (List.mem_cons_of_mem _ e)
    · intro y hy
      have h3 := h2 _ List.mem_cons_self
      have h4 : b ≤ (if a < b then b else a) ∧ a ≤ (if a < b then b else a) := by split <;> omega
      rcases List.mem_cons.mp hy with e | hy
      · rw [e]; exact Int.le_trans h4.2 h3
      · rcases List.mem_cons.mp hy with e | hy
        · rw [e]; exact Int.le_trans h4.1 h3
        · exact h2 y (List.mem_cons_of_mem _ hy)
theorem least_mem {ns : List Int} (h : ns ≠ []) : leastI ns ∈ ns := by cases ns with | nil => exact absurd rfl h | cons a r => exact (leastF r a).1
theorem least_le {ns : List Int} {y : Int} (h : y ∈ ns) : leastI ns ≤ y := by cases ns with | nil => cases h | cons a r => exact (leastF r a).2 y h
theorem most_mem {ns : List Int} (h : ns ≠ []) : mostI ns ∈ ns := by cases ns with | nil => exact absurd rfl h | cons a r => exact (mostF r a).1
theorem le_most {ns : List Int} {y : Int} (h : y ∈ ns) : y ≤ mostI ns := by cases ns with | nil => cases h | cons a r => exact (mostF r a).2 y h
theorem least_uniq {ns : List Int} {m : Int} (h : m ∈ ns) (q : ∀ y ∈ ns, m ≤ y) : m = leastI ns := by
  have h1 := q _ (least_mem (List.ne_nil_of_mem h))
  have h2 := least_le h
  omega
theorem most_uniq {ns : List Int} {m : Int} (h : m ∈ ns) (q : ∀ y ∈ ns, y ≤ m) : m = mostI ns := by
  have h1 := q _ (most_mem (List.ne_nil_of_mem h))
  have h2 := le_most h
  omega
def cMin : DC := fun xs Q => match xs with
  | [.list l] => intsOf l fun ns => ns ≠ [] ∧ Q (.val (.int (leastI ns)))
  | [.int a, .int b] => Q (.val (.int (if b < a then b else a)))
  | _ => False
theorem cv_min (hc : X.calm = true) : CallV X (.builtin "min") cMin := by
  refine ⟨_, CallR.or (cr_min hc) (call_min2 hc), fun G ds σ H vs xs DQ Q R sh hq k => ?_⟩
  unfold cMin at hq
  split at hq
  · obtain ⟨v, rfl, s⟩ := sha1 sh
    obtain ⟨ns, rfl, h0, q⟩ := intsOf_e hq
    obtain ⟨a, vs, rfl, q5, q6⟩ := s.list R.sub
    rw [q6.intsV] at q5
    refine .inl ⟨a, ns, rfl, q5, List.length_pos_iff.mpr h0, fun m h1 h2 => ?_⟩
    rw [least_uniq h1 h2]
    exact k _ _ _ _ q R (Ext.refl ..) (.int _) trivial
  · obtain ⟨v, w, rfl, s1, s2⟩ := sha2 sh
    exact .inr ⟨_, _, by rw [s1.int, s2.int], k _ _ _ _ hq R (Ext.refl ..) (.int _) trivial⟩
  · exact hq.elim
def cMax : DC := fun xs Q => match xs with
  | [.list l] => intsOf l fun ns => ns ≠ [] ∧ Q (.val (.int (mostI ns)))
  | [.int a, .int b] => Q (.val (.int (if b > a then b else a)))
  | _ => False
theorem cv_max (hc : X.calm = true) : CallV X (.builtin "max") cMax := by
  refine ⟨_, CallR.or (cr_max hc) (call_max2 hc), fun G ds σ H vs xs DQ Q R sh hq k => ?_⟩
  unfold cMax at hq
  split at hq
  · obtain ⟨v, rfl, s⟩ := sha1 sh
    obtain ⟨ns, rfl, h0, q⟩ := intsOf_e hq
    obtain ⟨a, vs, rfl, q5, q6⟩ := s.list R.sub
    rw [q6.intsV] at q5
    refine .inl ⟨a, ns, rfl, q5, List.length_pos_iff.mpr h0, fun m h1 h2 => ?_⟩
    rw [most_uniq h1 h2]
    exact k _ _ _ _ q R (Ext.refl ..) (.int _) trivial
  · obtain ⟨v, w, rfl, s1, s2⟩ := sha2 sh
    exact .inr ⟨_, _, by rw [s1.int, s2.int], k _ _ _ _ hq R (Ext.refl ..) (.int _) trivial⟩
  · exact hq.elim
def cAll : DC := fun xs Q => match xs with
  | [.list l] => boolsOf l fun ns => Q (.val (.bool (ns.all (fun b => b))))
  | _ => False
theorem cv_all (hc : X.calm = true) : CallV X (.builtin "all") cAll := by
  refine ⟨_, cr_all hc, fun G ds σ H vs xs DQ Q R sh hq k => ?_⟩
  unfold cAll at hq
  split at hq
  · obtain ⟨v, rfl, s⟩ := sha1 sh
    obtain ⟨ns, rfl, q⟩ := boolsOf_e hq
    obtain ⟨a, vs, rfl, q5, q6⟩ := s.list R.sub
    rw [q6.boolsV] at q5
    exact ⟨a, ns, rfl, q5, k _ _ _ _ q R (Ext.refl ..) (.bl _) trivial⟩
  · exact hq.elim
def cAny : DC := fun xs Q => match xs with
  | [.list l] => boolsOf l fun ns => Q (.val (.bool (ns.any (fun b => b))))
  | _ => False
theorem cv_any (hc : X.calm = true) : CallV X (.builtin "any") cAny := by
  refine ⟨_, cr_any hc, fun G ds σ H vs xs DQ Q R sh hq k => ?_⟩
  unfold cAny at hq
  split at hq
  · obtain ⟨v, rfl, s⟩ := sha1 sh
    obtain ⟨ns, rfl, q⟩ := boolsOf_e hq
    obtain ⟨a, vs, rfl, q5, q6⟩ := s.list R.sub
    rw [q6.boolsV] at q5
    exact ⟨a, ns, rfl, q5, k _ _ _ _ q R (Ext.refl ..) (.bl _) trivial⟩
  · exact hq.elim
end
end PV
end
section
set_option Elab.async false
set_option linter.all false
set_option maxRecDepth 100000
set_option maxHeartbeats 4000000
namespace PV
open PySem L2

/-! ### calls of the text's own defs -/
/-- a def over data: what it is handed (firm, or lent), what it hands back, the lent things behind it -/
abbrev DSp := List Sl → (Ev → List Sl → Prop) → Prop
def notAt : Ev → Prop
  | .at_ _ => False
  | _ => True
def spD (K : PySem.W.Frag) (n : Nat) (f : DSp) : Sp := fun vs H Q _ => ∃ (G : Hp) (as : List Sl) (DQ : Ev → List Sl → Prop), as.length = n ∧ Rel K G as (vs.map some) H ∧ f as DQ ∧
  ∀ ev as' v G' H', DQ ev as' → Rel K G' as' (vs.map some) H' → Ext as (vs.map some) G H as' (vs.map some) G' H' → EvR K G' as' (vs.map some) H' v ev → FrN as (vs.map some) H v ev → notAt ev → Q v H'
structure Callee (P : Program) (w : World) (K : PySem.W.Frag) (mg : Str → Option Value) (base : Heap) (k : Nat) (x : Str) (n : Nat) (f : DSp) : Prop where
  ex : ∃ (a : Addr) (fd : FuncData) (ps : List Str), FnOk P w K mg base CX0 k a fd ps (spD K n f) ∧ mg x = some (.ref a) ∧ PySem.W.keepIn K (.ref a) = true ∧ Binds K fd ps []
/-- the arguments that are not lent are made firm -/
def fzs : List Bool → List Ev → DS → (DS → Prop) → Prop
  | b :: bs, e :: es, ds, Q => match b with
    | true => fzs bs es ds Q
    | false => frz e ds fun _ ds1 => fzs bs es ds1 Q
  | _, _, ds, Q => Q ds
/-- what is handed over -/
def takeA : List Ev → DS → List Sl
  | [], _ => []
  | .val d :: es, ds => .fz d :: takeA es ds
  | .fresh d :: es, ds => .fz d :: takeA es ds
  | .at_ i :: es, ds => (ds[i]?).getD .no :: takeA es ds
def isOw : Option Sl → Bool
  | some (.ow _) => true
  | _ => false
/-- the slots that are lent -/
def owIx : List Ev → DS → List Nat
  | [], _ => []
  | .at_ i :: es, ds => if isOw ds[i]? then i :: owIx es ds else owIx es ds
  | _ :: es, ds => owIx es ds
/-- back from the call -/
def putB : List Ev → List Sl → DS → DS
  | .at_ i :: es, a :: as, ds => putB es as (if isOw ds[i]? then ds.set i a else ds)
  | _ :: es, _ :: as, ds => putB es as ds
  | _, _, ds => ds
def notIn : Nat → List Nat → Bool
  | _, [] => true
  | a, b :: r => (!Nat.beq a b) && notIn a r
def nodupB : List Nat → Bool
  | [] => true
  | a :: r => notIn a r && nodupB r
theorem notIn_e : ∀ {a : Nat} {r : List Nat}, notIn a r = true → a ∉ r
  | _, [], _ => by simp
  | a, b :: r, h => by
    unfold notIn at h
    rw [Bool.and_eq_true] at h
    simp only [List.mem_cons, not_or]
    exact ⟨fun e => by subst e; simp at h, notIn_e h.2⟩
theorem nodupB_e : ∀ {l : List Nat}, nodupB l = true → l.Nodup
  | [], _ => by simp
  | a :: r, h => by
    unfold nodupB at h
    rw [Bool.and_eq_true] at h
    exact List.nodup_cons.mpr ⟨notIn_e h.1, nodupB_e h.2⟩
def eCall (f : DSp) (n : Nat) (bs : List Bool) (fa : DA) : DE := fun ds Q => fa ds fun es ds1 => fzs bs es ds1 fun ds2 => whenB (lenIs es n && nodupB (owIx es ds2)) (f (takeA es ds2) fun ev as' => Q ev (putB es as' ds2))

theorem fzs_ok {K : PySem.W.Frag} {σ : St} {H : Hp} : ∀ (bs : List Bool) {vs : List V} {es : List Ev} {G : Hp} {ds : DS} {DQ : DS → Prop}, Rel K G ds σ H → EvsR K G ds σ H vs es → fzs bs es ds DQ →
    ∃ ds' G', DQ ds' ∧ Rel K G' ds' σ H ∧ Ext ds σ G H ds' σ G' H
  | [], _, _, G, ds, _, R, _, q => ⟨ds, G, by unfold fzs at q; exact q, R, Ext.refl ..⟩
  | _ :: _, _, _, G, ds, _, R, .nil, q => ⟨ds, G, by unfold fzs at q; exact q, R, Ext.refl ..⟩
  | true :: bs, _, _, G, ds, _, R, .cons h t, q => fzs_ok bs R t q
  | false :: bs, _, _, G, ds, _, R, .cons h t, q => by
    unfold fzs at q
    simp only at q
    obtain ⟨d, ds1, G1, q1, R1, p1, x1⟩ := frz_ext R (Ext.refl ..) h.1 (nm_FrN h.2) q
    obtain ⟨ds2, G2, q2, R2, x2⟩ := fzs_ok bs R1 (EvsR.mo x1.gg t) q1
    exact ⟨ds2, G2, q2, R2, x1.trans x2⟩
/-- what stands at the k-th place of a call -/
theorem takeA_get {ds : DS} : ∀ {es : List Ev} {k : Nat} {s : Sl}, (takeA es ds)[k]? = some s → ∃ e, es[k]? = some e ∧ ((∃ d, (e = .val d ∨ e = .fresh d) ∧ s = .fz d) ∨ ∃ i, e = .at_ i ∧ s = (ds[i]?).getD .no)
  | [], k, s, h => by simp [takeA] at h
  | .val d :: es, 0, s, h => by simp [takeA] at h; exact ⟨_, rfl, .inl ⟨d, .inl rfl, h.symm⟩⟩
  | .fresh d :: es, 0, s, h => by simp [takeA] at h; exact ⟨_, rfl, .inl ⟨d, .inr rfl, h.symm⟩⟩
  | .at_ i :: es, 0, s, h => by simp [takeA] at h; exact ⟨_, rfl, .inr ⟨i, rfl, h.symm⟩⟩
  | .val d :: es, k + 1, s, h => by simpa using takeA_get (es := es) (k := k) (by simpa [takeA] using h)
  | .fresh d :: es, k + 1, s, h => by simpa using takeA_get (es := es) (k := k) (by simpa [takeA] using h)
  | .at_ i :: es, k + 1, s, h => by simpa using takeA_get (es := es) (k := k) (by simpa [takeA] using h)
theorem takeA_len {ds : DS} : ∀ (es : List Ev), (takeA es ds).length = es.length
  | [] => rfl
  | .val d :: es => by simp [takeA, takeA_len es]
  | .fresh d :: es => by simp [takeA, takeA_len es]
  | .at_ i :: es => by simp [takeA, takeA_len es]
theorem EvsR.get {K : PySem.W.Frag} {G : Hp} {ds : DS} {σ : St} {H : Hp} : ∀ {vs : List V} {es : List Ev} {k : Nat} {e : Ev}, EvsR K G ds σ H vs es → es[k]? = some e → ∃ v, vs[k]? = some v ∧ EvR K G ds σ H v e ∧ nm e = e
  | _, _, _, _, .nil, h => by simp at h
  | _, _, 0, _, .cons p t, h => by simp at h; subst h; exact ⟨_, rfl, p⟩
  | _, _, k + 1, _, .cons p t, h => by simpa using EvsR.get t (k := k) (by simpa using h)
theorem EvsR.len {K : PySem.W.Frag} {G : Hp} {ds : DS} {σ : St} {H : Hp} {vs : List V} {es : List Ev} (h : EvsR K G ds σ H vs es) : vs.length = es.length := Paired.length h
theorem owIx_at {ds : DS} : ∀ {es : List Ev} {k : Nat} {i : Nat} {d : D}, es[k]? = some (.at_ i) → ds[i]? = some (.ow d) → i ∈ owIx es ds
  | [], _, _, _, h, _ => by simp at h
  | e :: es, 0, i, d, h, q => by
    simp at h; subst h
    unfold owIx; rw [q]; simp [isOw]
  | e :: es, k + 1, i, d, h, q => by
    have := owIx_at (es := es) (k := k) (by simpa using h) q
    cases e with
    | at_ j =>
      unfold owIx
      split
      · exact List.mem_cons_of_mem _ this
      · exact this
    | _ => exact this
/-- lent once -/
theorem owIx_once {ds : DS} : ∀ {es : List Ev} {k l : Nat} {i : Nat} {d : D}, (owIx es ds).Nodup → es[k]? = some (.at_ i) → es[l]? = some (.at_ i) → ds[i]? = some (.ow d) → k = l
  | [], _, _, _, _, _, h, _, _ => by simp at h
  | e :: es, 0, 0, _, _, _, _, _, _ => rfl
  | e :: es, 0, l + 1, i, d, n, h1, h2, q => by
    simp at h1; subst h1
    unfold owIx at n
    rw [q] at n
    simp only [isOw, if_true] at n
    exact absurd (owIx_at (k := l) (by simpa using h2) q) (List.nodup_cons.mp n).1
  | e :: es, k + 1, 0, i, d, n, h1, h2, q => by
    simp at h2; subst h2
    unfold owIx at n
    rw [q] at n
    simp only [isOw, if_true] at n
    exact absurd (owIx_at (k := k) (by simpa using h1) q) (List.nodup_cons.mp n).1
  | e :: es, k + 1, l + 1, i, d, n, h1, h2, q => by
    have n' : (owIx es ds).Nodup := by
      cases e with
      | at_ j =>
        unfold owIx at n
        split at n
        · exact (List.nodup_cons.mp n).2
        · exact n
      | _ => exact n
    exact congrArg (· + 1) (owIx_once n' (by simpa using h1) (by simpa using h2) q)
theorem putB_len : ∀ (es : List Ev) (as : List Sl) (ds : DS), (putB es as ds).length = ds.length
  | [], _, _ => by simp [putB]
  | _ :: _, [], _ => by simp [putB]
  | .at_ i :: es, a :: as, ds => by
    simp only [putB]
    rw [putB_len]
    split <;> simp
  | .val _ :: es, a :: as, ds => by simp only [putB]; exact putB_len ..
  | .fresh _ :: es, a :: as, ds => by simp only [putB]; exact putB_len ..
/-- a slot behind a call: as it was and not lent, or as the call left it -/
theorem putB_get : ∀ {es : List Ev} {as : List Sl} {ds : DS} {i : Nat} {s : Sl}, as.length = es.length → (putB es as ds)[i]? = some s →
    (ds[i]? = some s ∧ ∀ (k : Nat) (d : D), es[k]? = some (Ev.at_ i) → s ≠ Sl.ow d) ∨ (∃ k : Nat, es[k]? = some (Ev.at_ i) ∧ as[k]? = some s ∧ isOw ds[i]? = true) ∨ (ds[i]? = some s ∧ ∀ k : Nat, es[k]? ≠ some (Ev.at_ i))
  | [], as, ds, i, s, _, h => .inr (.inr ⟨by simpa [putB] using h, fun k => by simp⟩)
  | e :: es, [], ds, i, s, l, _ => by simp at l
  | e :: es, a :: as, ds, i, s, l, h => by
    have l' : as.length = es.length := by simpa using l
    cases e with
    | at_ j =>
      simp only [putB] at h
      by_cases ho : isOw ds[j]? = true
      · rw [if_pos ho] at h
        rcases putB_get l' h with ⟨h1, h2⟩ | ⟨k, h1, h2, h3⟩ | ⟨h1, h2⟩
        · by_cases hij : j = i
          · subst hij
            rw [List.getElem?_set] at h1
            rw [if_pos rfl] at h1
            split at h1
            · cases h1
              exact .inr (.inl ⟨0, rfl, rfl, ho⟩)
            · cases h1
          · rw [List.getElem?_set_ne hij] at h1
            refine .inl ⟨h1, fun k d e => ?_⟩
            cases k with
            | zero => simp at e; exact absurd e hij
            | succ k => exact h2 k d (by simpa using e)
        · by_cases hij : j = i
          · subst hij
            exact .inr (.inl ⟨k + 1, by simpa using h1, by simpa using h2, ho⟩)
          · rw [List.getElem?_set_ne hij] at h3
            exact .inr (.inl ⟨k + 1, by simpa using h1, by simpa using h2, h3⟩)
        · by_cases hij : j = i
          · subst hij
            rw [List.getElem?_set] at h1
            rw [if_pos rfl] at h1
            split at h1
            · cases h1
              exact .inr (.inl ⟨0, rfl, rfl, ho⟩)
            · cases h1
          · rw [List.getElem?_set_ne hij] at h1
            refine .inr (.inr ⟨h1, fun k => ?_⟩)
            cases k with
            | zero => simpa using hij
            | succ k => simpa using h2 k
      · rw [if_neg ho] at h
        rcases putB_get l' h with ⟨h1, h2⟩ | ⟨k, h1, h2, h3⟩ | ⟨h1, h2⟩
        · refine .inl ⟨h1, fun k d e => ?_⟩
          cases k with
          | zero =>
            simp at e; subst e
            rintro rfl
            rw [h1] at ho
            exact ho rfl
          | succ k => exact h2 k d (by simpa using e)
        · exact .inr (.inl ⟨k + 1, by simpa using h1, by simpa using h2, h3⟩)
        · by_cases hij : j = i
          · subst hij
            refine .inl ⟨h1, fun k d e => ?_⟩
            rintro rfl
            rw [h1] at ho
            exact ho rfl
          · refine .inr (.inr ⟨h1, fun k => ?_⟩)
            cases k with
            | zero => simpa using hij
            | succ k => simpa using h2 k
    | val d =>
      simp only [putB] at h
      rcases putB_get l' h with ⟨h1, h2⟩ | ⟨k, h1, h2, h3⟩ | ⟨h1, h2⟩
      · refine .inl ⟨h1, fun k d e => ?_⟩
        cases k with
        | zero => simp at e
        | succ k => exact h2 k d (by simpa using e)
      · exact .inr (.inl ⟨k + 1, by simpa using h1, by simpa using h2, h3⟩)
      · refine .inr (.inr ⟨h1, fun k => ?_⟩)
        cases k with
        | zero => simp
        | succ k => simpa using h2 k
    | fresh d =>
      simp only [putB] at h
      rcases putB_get l' h with ⟨h1, h2⟩ | ⟨k, h1, h2, h3⟩ | ⟨h1, h2⟩
      · refine .inl ⟨h1, fun k d e => ?_⟩
        cases k with
        | zero => simp at e
        | succ k => exact h2 k d (by simpa using e)
      · exact .inr (.inl ⟨k + 1, by simpa using h1, by simpa using h2, h3⟩)
      · refine .inr (.inr ⟨h1, fun k => ?_⟩)
        cases k with
        | zero => simp
        | succ k => simpa using h2 k

theorem owns_take {K : PySem.W.Frag} {G : Hp} {ds : DS} {σ : St} {H : Hp} {vs : List V} {es : List Ev} (r : EvsR K G ds σ H vs es) {k : Nat} {a : Addr} (h : OwAt (takeA es ds) (vs.map some) k a) : ∃ i, es[k]? = some (.at_ i) ∧ OwAt ds σ i a := by
  obtain ⟨⟨d, e1⟩, e2⟩ := h
  obtain ⟨e, he, q⟩ := takeA_get e1
  rcases q with ⟨d', _, q⟩ | ⟨i, rfl, q⟩
  · cases q
  · obtain ⟨v, hv, rv, _⟩ := r.get he
    have rv : σ[i]? = some (some v) := rv
    have ev : v = .ref a := by
      rw [List.getElem?_map, hv] at e2
      exact Option.some.inj (Option.some.inj e2)
    subst ev
    refine ⟨i, he, ⟨d, ?_⟩, rv⟩
    cases h : ds[i]? with
    | none => rw [h] at q; cases q
    | some s => rw [h] at q; rw [q]; rfl
theorem call_in {K : PySem.W.Frag} {G : Hp} {ds : DS} {σ : St} {H : Hp} {vs : List V} {es : List Ev} (R : Rel K G ds σ H) (r : EvsR K G ds σ H vs es) (n : (owIx es ds).Nodup) : Rel K G (takeA es ds) (vs.map some) H := by
  refine ⟨R.sub, by rw [takeA_len, List.length_map, r.len], fun k d h => ?_, fun k d h => ?_, fun k l a h1 h2 => ?_⟩
  · obtain ⟨e, he, q⟩ := takeA_get h
    obtain ⟨v, hv, rv, hn⟩ := r.get he
    refine ⟨v, by rw [List.getElem?_map, hv]; rfl, ?_⟩
    rcases q with ⟨d', q0, q⟩ | ⟨i, rfl, q⟩
    · cases q
      rcases q0 with rfl | rfl
      · exact rv
      · cases hn
    · have rv : σ[i]? = some (some v) := rv
      cases h : ds[i]? with
      | none => rw [h] at q; cases q
      | some s =>
        rw [h] at q
        have q : Sl.fz d = s := q
        subst q
        obtain ⟨v', h1, h2⟩ := R.fz i d h
        rw [rv] at h1; cases h1
        exact h2
  · obtain ⟨e, he, q⟩ := takeA_get h
    obtain ⟨v, hv, rv, hn⟩ := r.get he
    rcases q with ⟨d', q0, q⟩ | ⟨i, rfl, q⟩
    · cases q
    · have rv : σ[i]? = some (some v) := rv
      cases h : ds[i]? with
      | none => rw [h] at q; cases q
      | some s =>
        rw [h] at q
        have q : Sl.ow d = s := q
        subst q
        obtain ⟨a, o, h1, h2, h3, h4⟩ := R.ow i d h
        rw [rv] at h1; cases h1
        exact ⟨a, o, by rw [List.getElem?_map, hv]; rfl, h2, h3, h4⟩
  · obtain ⟨i, g1, g2⟩ := owns_take r h1
    obtain ⟨j, g3, g4⟩ := owns_take r h2
    have e := R.ap i j a g2 g4
    subst e
    obtain ⟨⟨d, g5⟩, _⟩ := g2
    exact owIx_once n g1 g3 g5
theorem call_out {K : PySem.W.Frag} {G : Hp} {ds : DS} {σ : St} {H : Hp} {vs : List V} {es : List Ev} (R : Rel K G ds σ H) (r : EvsR K G ds σ H vs es) (n : (owIx es ds).Nodup) {as' : List Sl} {G' H' : Hp}
    (R' : Rel K G' as' (vs.map some) H') (x : Ext (takeA es ds) (vs.map some) G H as' (vs.map some) G' H') : Rel K G' (putB es as' ds) σ H' ∧ Ext ds σ G H (putB es as' ds) σ G' H' ∧ (∀ a, Owns (takeA es ds) (vs.map some) a → Owns ds σ a) ∧ ∀ a, Owns (putB es as' ds) σ a → Owns as' (vs.map some) a ∨ (H a ≠ none ∧ ¬ Owns (takeA es ds) (vs.map some) a) := by
  have ll : as'.length = es.length := by rw [R'.len, List.length_map, r.len]
  have hown : ∀ a, Owns (takeA es ds) (vs.map some) a → Owns ds σ a := fun a ⟨k, h⟩ => by
    obtain ⟨i, _, g⟩ := owns_take r h
    exact ⟨i, g⟩
  -- a slot's value at a lent place
  have at_v : ∀ {k i : Nat} {v : V}, es[k]? = some (.at_ i) → (vs.map some)[k]? = some (some v) → σ[i]? = some (some v) := fun {k i v} h1 h2 => by
    obtain ⟨v', hv, rv, _⟩ := r.get h1
    rw [List.getElem?_map, hv] at h2
    cases (Option.some.inj (Option.some.inj h2) : v' = v)
    exact rv
  have own' : ∀ i a, OwAt (putB es as' ds) σ i a → OwAt ds σ i a := fun i a ⟨⟨d, e⟩, s⟩ => by
    rcases putB_get ll e with ⟨h1, _⟩ | ⟨k, h1, h2, h3⟩ | ⟨h1, _⟩
    · exact ⟨⟨d, h1⟩, s⟩
    · refine ⟨?_, s⟩
      cases q : ds[i]? with
      | none => rw [q] at h3; cases h3
      | some t =>
        rw [q] at h3
        cases t with
        | ow d' => exact ⟨d', rfl⟩
        | _ => cases h3
    · exact ⟨⟨d, h1⟩, s⟩
  -- an own list that is not lent stays as it is
  have stay : ∀ {i : Nat} {d : D} {a : Addr} {o : HO}, ds[i]? = some (.ow d) → (∀ k : Nat, es[k]? ≠ some (Ev.at_ i)) → σ[i]? = some (some (.ref a)) → G a = none → H a = some o → Own K G o d → G' a = none ∧ H' a = some o ∧ Own K G' o d := fun {i d a o} h1 h2 h3 h4 h5 h6 => by
    have nO : ¬ Owns (takeA es ds) (vs.map some) a := fun ⟨k, h⟩ => by
      obtain ⟨j, g1, g2⟩ := owns_take r h
      have e := R.ap i j a ⟨⟨d, h1⟩, h3⟩ g2
      subst e
      exact h2 k g1
    refine ⟨?_, x.fr a o h5 nO, Own.mo x.gg h6⟩
    cases e : G' a with
    | none => rfl
    | some u =>
      rcases x.nw a u e h4 with q | q
      · rw [h5] at q; cases q
      · exact absurd q nO
  refine ⟨⟨R'.sub, by rw [putB_len]; exact R.len, fun i d e => ?_, fun i d e => ?_, fun i j a h1 h2 => R.ap i j a (own' i a h1) (own' j a h2)⟩, ⟨x.gg, fun b o h q => x.fr b o h fun z => q (hown b z), fun b o h q => ?_, fun b ⟨i, h⟩ => .inl ⟨i, own' i b h⟩⟩, hown, fun a ⟨i, ⟨d, e⟩, s⟩ => ?_⟩
  · rcases putB_get ll e with ⟨h1, _⟩ | ⟨k, h1, h2, h3⟩ | ⟨h1, _⟩
    · obtain ⟨v, g1, g2⟩ := R.fz i d h1
      exact ⟨v, g1, Dp.mo x.gg _ _ g2⟩
    · obtain ⟨v, g1, g2⟩ := R'.fz k d h2
      exact ⟨v, at_v h1 g1, g2⟩
    · obtain ⟨v, g1, g2⟩ := R.fz i d h1
      exact ⟨v, g1, Dp.mo x.gg _ _ g2⟩
  · rcases putB_get ll e with ⟨h1, h2⟩ | ⟨k, h1, h2, h3⟩ | ⟨h1, h2⟩
    · obtain ⟨a, o, g1, g2, g3, g4⟩ := R.ow i d h1
      obtain ⟨k1, k2, k3⟩ := stay h1 (fun k e' => h2 k d e' rfl) g1 g2 g3 g4
      exact ⟨a, o, g1, k1, k2, k3⟩
    · obtain ⟨a, o, g1, g2, g3, g4⟩ := R'.ow k d h2
      exact ⟨a, o, at_v h1 g1, g2, g3, g4⟩
    · obtain ⟨a, o, g1, g2, g3, g4⟩ := R.ow i d h1
      obtain ⟨k1, k2, k3⟩ := stay h1 h2 g1 g2 g3 g4
      exact ⟨a, o, g1, k1, k2, k3⟩
  · rcases x.nw b o h q with z | z
    · exact .inl z
    · exact .inr (hown b z)
  · have nl : ds[i]? = some (.ow d) → (∀ k : Nat, es[k]? ≠ some (Ev.at_ i)) → Owns as' (vs.map some) a ∨ (H a ≠ none ∧ ¬ Owns (takeA es ds) (vs.map some) a) := fun h1 h2 => by
      obtain ⟨a', o, g1, g2, g3, g4⟩ := R.ow i d h1
      rw [s] at g1; cases g1
      refine .inr ⟨(by rw [g3]; simp), fun ⟨k, h⟩ => ?_⟩
      obtain ⟨j, g1, g2⟩ := owns_take r h
      have e := R.ap i j a ⟨⟨d, h1⟩, s⟩ g2
      subst e
      exact h2 k g1
    rcases putB_get ll e with ⟨h1, h2⟩ | ⟨k, h1, h2, h3⟩ | ⟨h1, h2⟩
    · exact nl h1 (fun k e' => h2 k d e' rfl)
    · obtain ⟨v', hv, rv, _⟩ := r.get h1
      have rv : σ[i]? = some (some v') := rv
      rw [s] at rv; cases rv
      exact .inl ⟨k, ⟨d, h2⟩, (by rw [List.getElem?_map, hv]; rfl)⟩
    · exact nl h1 h2
end PV
end
section
set_option Elab.async false
set_option linter.all false
set_option maxRecDepth 100000
set_option maxHeartbeats 4000000
namespace L2
open PySem PyProof.Rows
section
variable {X : Cx} {tg : Expr}
/-- over a list or a tuple -/
def iSeq (K : PySem.W.Frag) (tl : TE) : TI := fun σ H R => tl σ H fun x H1 => ∃ a, x = .ref a ∧ (((∃ xs, SqL K H1 a xs) ∧ R (Itl K a) H1) ∨ ((∃ xs, SqT K H1 a xs) ∧ R (Itt K a) H1))
theorem pi_seq {l : Expr} {tl : TE} (hl : PE X l tl) : PI X tg l (iSeq X.K tl) := by
  refine ⟨fun pins s σ H R I h => ?_⟩
  refine thn (hl.run pins s σ H _ I h) fun v s1 ⟨x, H1, I1, r1, q1⟩ => ?_
  obtain ⟨a, e, q1⟩ := q1
  subst e
  cases r1
  rcases q1 with ⟨⟨xs, hq⟩, q⟩ | ⟨⟨xs, hq⟩, q⟩
  · obtain ⟨its, rv, p, hz⟩ := I1.list hq
    refine wpAny_pyIter_list p.isList ?_
    refine ⟨s1.heap.objs.size, [s1.heap.objs.size], _, _, H1, rfl, I1.kept (t' := s1.toks) fun b o e => Heap.get?_push_of_some _ e, turn_list a _, ⟨_, Heap.get?_push_size _ rfl, rfl, rfl⟩, fun b hb => ?_, q⟩
    have e : b = s1.heap.objs.size := by simpa using hb
    subst e
    exact I1.fpOk (Nat.le_refl _) (I1.hok.fresh (Nat.le_refl _))
  · obtain ⟨its, rv, p, hz⟩ := I1.tuple hq
    refine wpAny_pyIter_tuple (show s1.heap.IsTuple a its.toArray from p) ?_
    refine ⟨s1.heap.objs.size, [s1.heap.objs.size], _, _, H1, rfl, I1.kept (t' := s1.toks) fun b o e => Heap.get?_push_of_some _ e, turn_tuple a _, ⟨_, Heap.get?_push_size _ rfl, rfl, rfl⟩, fun b hb => ?_, q⟩
    have e : b = s1.heap.objs.size := by simpa using hb
    subst e
    exact I1.fpOk (Nat.le_refl _) (I1.hok.fresh (Nat.le_refl _))
/-- a, b = a tuple or a list -/
theorem pg_seq {es : List Expr} {k : Nat} {t : TGs} {n : Nat} {pos : Pos} (hc : X.calm = true) (h : PGs X es t)
    (hn : (assignEach es X.env).length = n := by rfl) (hst : (assignEach es X.env).findIdx? (·.1) = none := by rfl) : PG X (.Tuple es k pos) (fun v σ H Q => gTup X.K n t v σ H Q ∨ gUnl X.K n t v σ H Q) := by
  refine ⟨fun pins s σ H v u Q I r hw => ?_⟩
  rcases hw with hw | hw
  · exact (pg_tup (k := k) (pos := pos) hc h hn hst).run pins s σ H v u Q I r hw
  · exact (pg_unl (k := k) (pos := pos) hc h hn hst).run pins s σ H v u Q I r hw
def rGetL (K : PySem.W.Frag) : V → V → Hp → VK → Prop := fun o i H Q => ∃ p xs k v, o = .ref p ∧ i = .int k ∧ SqL K H p xs ∧ atI xs k = some v ∧ Q v H
theorem get_list : PGet X (rGetL X.K) := by
  intro pins s σ H o i ov iv Q I rx ry h
  obtain ⟨p, xs, i, z, rfl, rfl, hq, he, q⟩ := h
  cases rx
  obtain ⟨t, rfl⟩ := ry
  obtain ⟨its, r, pl, hz⟩ := I.list hq
  obtain ⟨j, h1, h2, h3, h4, h5⟩ := atI_get he
  obtain ⟨w, ew, rw'⟩ := r.get h2
  have hl := r.length
  have hn := line63
  have fin : EP X pins σ Q w s := ⟨z, H, I, rw', q⟩
  by_cases h0 : 0 ≤ i
  · have hj : i.toNat = j := by
      rw [seqIndex_of h0 h5] at h1
      exact Option.some.inj h1
    exact wpAny_getItem_list pl.isList h0 (by omega) (by rw [hj]; simpa using ew) fin
  · have hj : (i + (its.toArray.size : Int)).toNat = j := by
      rw [seqIndex_neg (by omega) h4] at h1
      rw [List.size_toArray, ← hl]
      exact Option.some.inj h1
    exact wpAny_getItem_list_neg pl.isList (by omega) (by rw [List.size_toArray] <;> omega) (by omega) (by rw [hj]; simpa using ew) fin
end
end L2
namespace PV
open PySem L2
section
variable {X : Cx} {pos : Pos}
/-- a call of a def of the text -/
theorem pve_call {x : Str} {p : Pos} {e : Expr} {es : List Expr} {n k : Nat} {f : DSp} {bs : List Bool} {fa : DA} (C : Callee X.prog X.w X.K X.mg X.base k x n f) (hr : Room k X.A) (hg : Gl X x) (hp : Passes CX0 X E0) (ha : PVA X (e :: es) fa)
    (hdb : (x == ("__debug__" : Str)) = false := by decide) (he : starEach (e :: es) X.env = (false, eval e X.env) :: starEach es X.env := by rfl) (hpl : (backTo pos (starEach es X.env)).any (·.1) = false := by rfl) :
    PVE X (.Call (.Name x p) (e :: es) [] pos) (eCall f n bs fa) := by
  obtain ⟨a, fd, ps, F, hm, hk, hb⟩ := C.ex
  obtain ⟨t, h1, h2⟩ := ha
  refine ⟨_, pe_call F hr hg hm hk hb .nil hp h1 hdb he hpl, fun G ds σ H DQ Q R hf k => h2 G ds σ H _ _ R hf fun es ds1 vs G1 H1 q1 R1 x1 r1 => ?_⟩
  obtain ⟨ds2, G2, q2, R2, x2⟩ := fzs_ok bs R1 r1 q1
  obtain ⟨nd, q2⟩ := whenB_e q2
  rw [Bool.and_eq_true] at nd
  have ln := lenIs_e nd.1
  have nd := nodupB_e nd.2
  have r2 : EvsR X.K G2 ds2 σ H1 vs es := EvsR.mo x2.gg r1
  rw [List.append_nil]
  refine ⟨G2, takeA es ds2, _, by rw [takeA_len]; exact ln, call_in R2 r2 nd, q2, fun ev as' v G3 H3 q3 R3 x3 rv nv na => ?_⟩
  obtain ⟨R4, x4, o4, n4⟩ := call_out R2 r2 nd R3 x3
  have xx := x1.trans (x2.trans x4)
  cases ev with
  | val d => exact k _ _ _ _ _ q3 R4 xx rv trivial
  | at_ i => exact na.elim
  | fresh d =>
    have nv' : FrN ds2 σ H1 v (.fresh d) := fun b e => by
      rcases nv b e with q | q
      · exact .inl q
      · exact .inr (o4 b q)
    refine k _ _ _ _ _ q3 R4 xx ?_ (x1.back (x2.back nv'))
    obtain ⟨a, o, rfl, h1, h2, h3, h4⟩ := rv
    refine ⟨a, o, rfl, h1, h2, h3, fun z => ?_⟩
    rcases n4 a z with q | ⟨q, q'⟩
    · exact h4 q
    · rcases nv a rfl with w | w
      · exact q w
      · exact q' w
/-! ### methods that change a list of one's own -/
abbrev DM := List D → List D → (List D → D → Prop) → Prop
def MutV (X : Cx) (id : String) (op : DM) : Prop := ∃ r, MtR X id r ∧ ∀ (G H : Hp) (a : Addr) (vs ws : List V) (l xs : List D) (DQ : List D → D → Prop) (Q : VK), H a = some (.lst vs) → DpAll X.K G vs l → DpAll X.K G ws xs → op l xs DQ →
  (∀ l' d vs' v, DQ l' d → DpAll X.K G vs' l' → Dp X.K G v d → Q v (upd H a (.lst vs'))) → r (.ref a) ws H Q
def withLs (ds : DS) (i : Nat) (P : Prop) : Prop := match ds[i]? with
  | some (.fz (.list _)) => P
  | some (.ow (.list _)) => P
  | _ => False
def mutAt (ds : DS) (i : Nat) (Q : List D → Prop) : Prop := match ds[i]? with
  | some (.ow (.list l)) => Q l
  | _ => False
def eMut (i : Nat) (op : DM) (fa : DA) : DE := fun ds Q => withLs ds i (fa ds fun es ds1 => frzAll es ds1 fun xs ds2 => mutAt ds2 i fun l => op l xs fun l' d => Q (.val d) (ds2.set i (.ow (.list l'))))
theorem isLs_v {K : PySem.W.Frag} {G : Hp} {ds : DS} {σ : St} {H : Hp} {i : Nat} {P : Prop} (R : Rel K G ds σ H) (h : withLs ds i P) : P ∧ ∃ a, σ[i]? = some (some (.ref a)) ∧ ∃ xs, SqL K H a xs := by
  unfold withLs at h
  split at h
  · rename_i l e
    obtain ⟨v, h1, h2⟩ := R.fz i _ e
    cases h2 with
    | lst hs ha => exact ⟨h, _, h1, _, SqL.mo R.sub hs⟩
  · rename_i l e
    obtain ⟨a, o, h1, h2, h3, h4⟩ := R.ow i _ e
    obtain ⟨vs, ds, rfl, _, _⟩ := own_lst h4
    exact ⟨h, a, h1, vs, .inl (.inl h3)⟩
  · exact h.elim
theorem owAt_setO {ds : DS} {σ : St} {i j : Nat} {a : Addr} {d e : D} (h : ds[i]? = some (.ow d)) (q : OwAt (ds.set i (.ow e)) σ j a) : OwAt ds σ j a := by
  obtain ⟨⟨d', e1⟩, e2⟩ := q
  by_cases hij : i = j
  · subst hij; exact ⟨⟨d, h⟩, e2⟩
  · rw [List.getElem?_set_ne hij] at e1
    exact ⟨⟨d', e1⟩, e2⟩
/-- a list of one's own is changed -/
theorem Rel.mut {K : PySem.W.Frag} {G : Hp} {ds : DS} {σ : St} {H : Hp} (R : Rel K G ds σ H) {i : Nat} {d : D} (e : ds[i]? = some (.ow d)) {a : Addr} (ha : σ[i]? = some (some (.ref a))) {o : HO} {d' : D} (h : Own K G o d') :
    Rel K G (ds.set i (.ow d')) σ (upd H a o) ∧ Ext ds σ G H (ds.set i (.ow d')) σ G (upd H a o) := by
  obtain ⟨a', o0, h1, h2, h3, h4⟩ := R.ow i d e
  rw [ha] at h1; cases h1
  have hi : i < ds.length := (List.getElem?_eq_some_iff.mp e).1
  refine ⟨⟨fun b u q => ?_, (by rw [List.length_set]; exact R.len), fun j d1 q => ?_, fun j d1 q => ?_, fun j k b p q => R.ap j k b (owAt_setO e p) (owAt_setO e q)⟩, ⟨Same.refl G, fun b u q n => ?_, fun b u q z => (by rw [z] at q; cases q), fun b ⟨j, q⟩ => .inl ⟨j, owAt_setO e q⟩⟩⟩
  · rw [upd_ne (fun z => by rw [z, h2] at q; cases q)]; exact R.sub b u q
  · by_cases hij : i = j
    · subst hij; rw [List.getElem?_set_self hi] at q; cases q
    · rw [List.getElem?_set_ne hij] at q; exact R.fz j d1 q
  · by_cases hij : i = j
    · subst hij; rw [List.getElem?_set_self hi] at q; cases q
      exact ⟨a, o, ha, h2, upd_same, h⟩
    · rw [List.getElem?_set_ne hij] at q
      obtain ⟨b, u, q1, q2, q3, q4⟩ := R.ow j d1 q
      refine ⟨b, u, q1, q2, ?_, q4⟩
      rw [upd_ne (fun z => hij (R.ap i j a ⟨⟨d, e⟩, ha⟩ ⟨⟨d1, q⟩, by rw [← z]; exact q1⟩))]
      exact q3
  · rw [upd_ne (fun z => n ⟨i, ⟨d, e⟩, by rw [z]; exact ha⟩)]; exact q
theorem mutAt_v {ds : DS} {i : Nat} {Q : List D → Prop} (h : mutAt ds i Q) : ∃ l, ds[i]? = some (.ow (.list l)) ∧ Q l := by
  unfold mutAt at h
  split at h
  · rename_i l e; exact ⟨l, e, h⟩
  · exact h.elim
theorem mut_step {id : String} {op : DM} (hm : MutV X id op) : ∃ r, MtR X id r ∧ ∀ {G0 : Hp} {ds0 : DS} {H0 : Hp} {G : Hp} {ds : DS} {σ : St} {H : Hp} {i : Nat} {a : Addr} {vs : List V} {es : List Ev} {DQ : Ev → DS → Prop} {Q : VK}, Rel X.K G ds σ H → Ext ds0 σ G0 H0 ds σ G H → EvsR X.K G ds σ H vs es → σ[i]? = some (some (.ref a)) →
    (frzAll es ds fun xs ds2 => mutAt ds2 i fun l => op l xs fun l' d => DQ (.val d) (ds2.set i (.ow (.list l')))) →
    (∀ ev ds' v G' H', DQ ev ds' → Rel X.K G' ds' σ H' → Ext ds0 σ G0 H0 ds' σ G' H' → EvR X.K G' ds' σ H' v ev → FrN ds0 σ H0 v ev → Q v H') → r (.ref a) vs H Q := by
  obtain ⟨r, hr, hs⟩ := hm
  refine ⟨r, hr, fun {G0 ds0 H0 G ds σ H i a vs es DQ Q} R x rs ha hq k => ?_⟩
  obtain ⟨xs, ds2, G2, q2, R2, p2, x2⟩ := frzAll_ok R rs hq
  obtain ⟨l, e, q3⟩ := mutAt_v q2
  obtain ⟨a', o, h1, h2, h3, h4⟩ := R2.ow i _ e
  rw [ha] at h1; cases h1
  obtain ⟨us, l', rfl, e', h5⟩ := own_lst h4
  cases e'
  refine hs G2 H a us vs l xs _ Q h3 h5 p2 q3 fun l' d vs' v q4 p4 pv => ?_
  obtain ⟨R3, x3⟩ := R2.mut e ha (o := .lst vs') (d' := .list l') p4
  exact k _ _ _ _ _ q4 R3 (x.trans (x2.trans x3)) pv trivial
theorem pve_mut {i : Nat} {op : DM} {id : String} {x name : Str} {p apos cpos : Pos} {e : Expr} {es : List Expr} {fa : DA} (slot : PySem.Slot "list" name id) (hty : typeOf (.builtin id) = pure (.type "method_descriptor")) (hm : MutV X id op) (hv : PE X (.Name x p) (tVar i)) (ha : PVA X (e :: es) fa)
    (hfew : ((backTo cpos (starEach (e :: es) X.env)).all (fun x => !x.1) && (backToKw cpos (keywordEach [] X.env)).all (fun x => x.1.isSome)
      && decide ((e :: es).length + ([] : List Keyword).length + (if ([] : List Keyword).isEmpty then 0 else 1) < 30)) = true := by rfl)
    (hline : (apos.endLine == cpos.line) = true := by rfl) (hs : starEach (e :: es) X.env = (false, eval e X.env) :: starEach es X.env := by rfl) (hplain : (backTo cpos (starEach es X.env)).any (·.1) = false := by rfl) :
    PVE X (.Call (.Attribute (.Name x p) name apos) (e :: es) [] cpos) (eMut i op fa) := by
  obtain ⟨r, hr, st⟩ := mut_step hm
  obtain ⟨t, h1, h2⟩ := ha
  refine ⟨_, pe_bm PySem.F.plainAttrs_list slot hty hr hv h1 rfl hfew hline hs hplain, fun G ds σ H DQ Q R hf k => ?_⟩
  obtain ⟨hf, a, ha, xs, hx⟩ := isLs_v R hf
  refine ⟨.ref a, ha, .inl ⟨rfl, xs, hx⟩, h2 G ds σ H _ _ R hf fun es ds1 vs G1 H1 q1 R1 x1 r1 => ?_⟩
  exact st R1 x1 r1 ha q1 k
theorem pve_mut0 {i : Nat} {op : DM} {id : String} {x name : Str} {p apos cpos : Pos} (slot : PySem.Slot "list" name id) (hty : typeOf (.builtin id) = pure (.type "method_descriptor")) (hm : MutV X id op) (hv : PE X (.Name x p) (tVar i)) (hline : (apos.endLine == cpos.line) = true := by rfl) :
    PVE X (.Call (.Attribute (.Name x p) name apos) [] [] cpos) (eMut i op aNil) := by
  obtain ⟨r, hr, st⟩ := mut_step hm
  refine ⟨_, pe_bm0 PySem.F.plainAttrs_list slot hty hr hv rfl hline, fun G ds σ H DQ Q R hf k => ?_⟩
  obtain ⟨hf, a, ha, xs, hx⟩ := isLs_v R hf
  refine ⟨.ref a, ha, .inl ⟨rfl, xs, hx⟩, ?_⟩
  exact st R (Ext.refl ..) .nil ha hf k
def mApp : DM := fun l xs Q => match xs with
  | [d] => l.length < 16777216 ∧ Q (l ++ [d]) .none
  | _ => False
theorem mv_app : MutV X "list.append" mApp := by
  have zl : sizeLine = 16777216 := sizeLine_eq
  refine ⟨_, mt_append, fun G H a vs ws l xs DQ Q hH hl hw hq k => ?_⟩
  unfold mApp at hq
  split at hq
  · cases hw with
    | cons h t =>
      cases t
      exact ⟨a, vs, _, rfl, rfl, hH, by rw [hl.len]; omega, k _ _ _ _ hq.2 (hl.app (.cons h .nil)) .non⟩
  · exact hq.elim
@[irreducible] def mPop : DM := fun l xs Q => match xs with
  | [] => (match l.getLast? with
    | some d => Q l.dropLast d
    | none => False)
  | [.int i] => (-(2 ^ 63) ≤ i ∧ i < 2 ^ 63) ∧ (match ixN l.length i with
    | some j => (match l[j]? with
      | some d => Q (l.eraseIdx j) d
      | none => False)
    | none => False)
  | _ => False
theorem mv_pop : MutV X "list.pop" mPop := by
  have zl : sizeLine = 16777216 := sizeLine_eq
  refine ⟨_, MtR.or mt_pop mt_popAt, fun G H a vs ws l xs DQ Q hH hl hw hq k => ?_⟩
  unfold mPop at hq
  split at hq
  · cases hw
    split at hq
    · rename_i d e
      have e1 : l[l.length - 1]? = some d := by rw [← List.getLast?_eq_getElem?]; exact e
      obtain ⟨v, h1, h2⟩ := hl.get e1
      refine .inl ⟨a, vs, v, rfl, rfl, hH, by rw [hl.len]; exact h1, k _ _ _ _ hq ?_ h2⟩
      have e2 : l.dropLast = l.take (l.length - 1) := List.dropLast_eq_take
      have e3 : vs.dropLast = vs.take (l.length - 1) := by rw [← hl.len]; exact List.dropLast_eq_take
      rw [e2, e3]
      exact DpAll.take _ hl
    · exact hq.elim
  · rename_i i
    cases hw with
    | cons h t =>
      cases t
      cases h
      obtain ⟨hb, hq⟩ := hq
      split at hq
      · rename_i j e
        split at hq
        · rename_i d e1
          obtain ⟨v, h1, h2⟩ := hl.get e1
          obtain ⟨g1, g2, g3, g4⟩ := ixN_seq e
          exact .inr ⟨a, vs, i, j, v, rfl, rfl, hH, hb.1, hb.2, by rw [hl.len]; exact g1, h1, k _ _ _ _ hq (DpAll.erase _ hl) h2⟩
        · exact hq.elim
      · exact hq.elim
  · exact hq.elim
end
end PV
end
section
set_option Elab.async false
set_option linter.all false
set_option maxRecDepth 100000
set_option maxHeartbeats 4000000
namespace PV
open PySem L2
/-! ### what is walked -/
/-- its items; the slot of the list that is walked where it stands -/
structure ItD where
  xs : List D
  sl : Option Nat
/-- the list in slot i is these items still -/
def contIs (i : Nat) (xs : List D) (ds : DS) : Prop := match ds[i]? with
  | some (.fz (.list l)) => l = xs
  | some (.ow (.list l)) => l = xs
  | _ => False
def ItD.ok (it : ItD) (ds : DS) : Prop := match it.sl with
  | none => True
  | some i => contIs i it.xs ds
def guard (sl : Option Nat) (xs : List D) (ds : DS) (P : Prop) : Prop := match sl with
  | none => P
  | some i => (match ds[i]? with
    | some (.fz (.list l)) => l = xs ∧ P
    | some (.ow (.list l)) => l = xs ∧ P
    | _ => False)
theorem guard_e {it : ItD} {ds : DS} {P : Prop} (h : guard it.sl it.xs ds P) : it.ok ds ∧ P := by
  obtain ⟨xs, sl⟩ := it
  cases sl with
  | none => exact ⟨trivial, h⟩
  | some i =>
    show contIs i xs ds ∧ P
    have h : (match ds[i]? with
      | some (.fz (.list l)) => l = xs ∧ P
      | some (.ow (.list l)) => l = xs ∧ P
      | _ => False) := h
    unfold contIs
    split at h
    · exact h
    · exact h
    · exact h.elim
def Pin (pn : List Nat) (σ σ' : St) : Prop := ∀ i ∈ pn, σ'[i]? = σ[i]?
theorem Pin.refl (pn : List Nat) (σ : St) : Pin pn σ σ := fun _ _ => rfl
theorem Pin.trans {pn : List Nat} {σ σ1 σ2 : St} (a : Pin pn σ σ1) (b : Pin pn σ1 σ2) : Pin pn σ σ2 := fun i h => (b i h).trans (a i h)
def ItOk (K : PySem.W.Frag) (pn : List Nat) (σ0 : St) (G0 : Hp) (it : ItD) (J : It) : Prop :=
  ∀ (G : Hp) (ds : DS) (σ : St) (H : Hp), Rel K G ds σ H → Same G0 G → Pin pn σ0 σ → it.ok ds →
    J.stop it.xs.length H ∧ ∀ (k : Nat) (d : D), it.xs[k]? = some d → J.go k H ∧ ∀ v H', J.yld k H v H' → ∃ G', Rel K G' ds σ H' ∧ Ext ds σ G H ds σ G' H' ∧ Dp K G' v d
abbrev DI := DS → (ItD → DS → Prop) → Prop
def PVI (X : Cx) (pn : List Nat) (tg iter : Expr) (f : DI) : Prop := ∃ wi, PI X tg iter wi ∧ ∀ (G : Hp) (ds : DS) (σ : St) (H : Hp) (DQ : ItD → DS → Prop) (R : It → Hp → Prop), Rel X.K G ds σ H → f ds DQ →
  (∀ it ds' J G' H', DQ it ds' → Rel X.K G' ds' σ H' → Ext ds σ G H ds' σ G' H' → ItOk X.K pn σ G' it J → R J H') → wi σ H R
/-- made firm, then walked -/
def iFz (f : DE) : DI := fun ds Q => eFz f ds fun d ds1 => itemsD d fun xs => Q ⟨xs, none⟩ ds1
theorem dp_items {K : PySem.W.Frag} {G : Hp} {v : V} {d : D} {xs : List D} (h : Dp K G v d) (e : d = .list xs ∨ d = .tuple xs) : ∃ a vs, v = .ref a ∧ (SqL K G a vs ∨ SqT K G a vs) ∧ DpAll K G vs xs := by
  rcases e with rfl | rfl
  · cases h with | lst hs ha => exact ⟨_, _, rfl, .inl hs, ha⟩
  · cases h with | tup hs ha => exact ⟨_, _, rfl, .inr hs, ha⟩
/-- two readings of one list: only where H has a list once -/
def OneL (K : PySem.W.Frag) (H : Hp) (a : Addr) (vs : List V) : Prop := SqL K H a vs
theorem itl_ok {X : Cx} {pn : List Nat} {σ : St} {G : Hp} {a : Addr} {vs : List V} {xs : List D} (h : SqL X.K G a vs) (p : DpAll X.K G vs xs) : ItOk X.K pn σ G ⟨xs, none⟩ (Itl X.K a) := by
  intro G1 ds1 σ1 H1 R1 s _ _
  have h1 : SqL X.K H1 a vs := SqL.mo (s.trans R1.sub) h
  refine ⟨⟨vs, h1, by rw [p.len]; exact Nat.le_refl _⟩, fun k d e => ?_⟩
  obtain ⟨v, e1, e2⟩ := p.get e
  refine ⟨⟨vs, v, h1, e1⟩, fun v' H' y => ?_⟩
  obtain ⟨rfl, y⟩ := y
  have := y vs h1
  rw [e1] at this; cases this
  exact ⟨G1, R1, Ext.refl .., Dp.mo s _ _ e2⟩
theorem itt_ok {X : Cx} {pn : List Nat} {σ : St} {G : Hp} {a : Addr} {vs : List V} {xs : List D} (h : SqT X.K G a vs) (p : DpAll X.K G vs xs) : ItOk X.K pn σ G ⟨xs, none⟩ (Itt X.K a) := by
  intro G1 ds1 σ1 H1 R1 s _ _
  have h1 : SqT X.K H1 a vs := SqT.mo (s.trans R1.sub) h
  refine ⟨⟨vs, h1, by rw [p.len]; exact Nat.le_refl _⟩, fun k d e => ?_⟩
  obtain ⟨v, e1, e2⟩ := p.get e
  refine ⟨⟨vs, v, h1, e1⟩, fun v' H' y => ?_⟩
  obtain ⟨rfl, y⟩ := y
  have := y vs h1
  rw [e1] at this; cases this
  exact ⟨G1, R1, Ext.refl .., Dp.mo s _ _ e2⟩
section
variable {X : Cx} {tg e : Expr} {pn : List Nat} {pos : Pos}
theorem pvi_fz {f : DE} (h : PVE X e f) : PVI X pn tg e (iFz f) := by
  obtain ⟨t, h1, h2⟩ := h.fz
  refine ⟨_, pi_seq h1, fun G ds σ H DQ R RR hf k => h2 G ds σ H _ _ RR hf fun d ds1 v G1 H1 q R1 x1 p1 => ?_⟩
  obtain ⟨xs, e, q⟩ := itemsD_e q
  obtain ⟨a, vs, rfl, hs, hp⟩ := dp_items p1 e
  refine ⟨a, rfl, ?_⟩
  rcases hs with hs | hs
  · exact .inl ⟨⟨vs, SqL.mo R1.sub hs⟩, k _ _ _ _ _ q R1 x1 (itl_ok hs hp)⟩
  · exact .inr ⟨⟨vs, SqT.mo R1.sub hs⟩, k _ _ _ _ _ q R1 x1 (itt_ok hs hp)⟩
/-- a list in a slot, walked where it stands -/
def iSlot (i : Nat) : DI := fun ds Q => match ds[i]? with
  | some (.fz d) => itemsD d fun xs => Q ⟨xs, none⟩ ds
  | some (.ow (.list xs)) => Q ⟨xs, some i⟩ ds
  | _ => False
theorem contIs_v {K : PySem.W.Frag} {G : Hp} {ds : DS} {σ : St} {H : Hp} {i : Nat} {xs : List D} (R : Rel K G ds σ H) (c : contIs i xs ds) : ∃ a vs, σ[i]? = some (some (.ref a)) ∧ SqL K H a vs ∧ DpAll K G vs xs := by
  unfold contIs at c
  split at c
  · rename_i l e
    subst c
    obtain ⟨v, h1, h2⟩ := R.fz i _ e
    cases h2 with | lst hs ha => exact ⟨_, _, h1, SqL.mo R.sub hs, ha⟩
  · rename_i l e
    subst c
    obtain ⟨a, o, h1, h2, h3, h4⟩ := R.ow i _ e
    obtain ⟨vs, ds, rfl, e, h5⟩ := own_lst h4
    cases e
    exact ⟨a, vs, h1, .inl (.inl h3), h5⟩
  · exact c.elim
theorem pvi_slot {i : Nat} {x : Str} {p : Pos} (hv : PE X (.Name x p) (tVar i)) (hi : i ∈ pn) : PVI X pn tg (.Name x p) (iSlot i) := by
  refine ⟨_, pi_seq hv, fun G ds σ H DQ R RR hf k => ?_⟩
  unfold iSlot at hf
  split at hf
  · rename_i d e
    obtain ⟨v, h1, h2⟩ := RR.fz i d e
    obtain ⟨xs, e, q⟩ := itemsD_e hf
    obtain ⟨a, vs, rfl, hs, hp⟩ := dp_items h2 e
    refine ⟨_, h1, a, rfl, ?_⟩
    rcases hs with hs | hs
    · exact .inl ⟨⟨vs, SqL.mo RR.sub hs⟩, k _ _ _ _ _ q RR (Ext.refl ..) (itl_ok hs hp)⟩
    · exact .inr ⟨⟨vs, SqT.mo RR.sub hs⟩, k _ _ _ _ _ q RR (Ext.refl ..) (itt_ok hs hp)⟩
  · rename_i xs e
    have c : contIs i xs ds := by unfold contIs; rw [e]
    obtain ⟨a, vs, h1, h2, h3⟩ := contIs_v RR c
    refine ⟨_, h1, a, rfl, .inl ⟨⟨vs, h2⟩, k _ _ _ _ _ hf RR (Ext.refl ..) ?_⟩⟩
    intro G1 ds1 σ1 H1 R1 s pi c1
    obtain ⟨a1, vs1, g1, g2, g3⟩ := contIs_v R1 c1
    rw [pi i hi, h1] at g1
    cases g1
    refine ⟨⟨vs1, g2, by rw [g3.len]; exact Nat.le_refl _⟩, fun j d e => ?_⟩
    obtain ⟨v, e1, e2⟩ := g3.get e
    refine ⟨⟨vs1, v, g2, e1⟩, fun v' H' y => ?_⟩
    obtain ⟨rfl, y⟩ := y
    have := y vs1 g2
    rw [e1] at this; cases this
    exact ⟨G1, R1, Ext.refl .., e2⟩
  · exact hf.elim
/-- lo, lo + 1, .. -/
def rngD (lo : Int) (n : Nat) : List D := (List.range n).map fun k : Nat => PyData.int (lo + (k : Int))
theorem itr_ok {σ : St} {G : Hp} (lo : Int) (n : Nat) : ItOk X.K pn σ G ⟨rngD lo n, none⟩ (Itr lo n) := by
  intro G1 ds1 σ1 H1 R1 s _ _
  have l : (rngD lo n).length = n := by simp [rngD]
  refine ⟨(by show n ≤ (rngD lo n).length; rw [l]; exact Nat.le_refl _), fun k d e => ?_⟩
  have hk : k < n := by rw [← l]; exact (List.getElem?_eq_some_iff.mp e).1
  refine ⟨hk, fun v' H' y => ?_⟩
  obtain ⟨rfl, rfl⟩ := y
  have : d = .int (lo + k) := by
    simp [rngD, List.getElem?_range hk] at e
    exact e.symm
  subst this
  exact ⟨G1, R1, Ext.refl .., .int _⟩
def bnd62 (i : Int) : Prop := -(2 ^ 62) ≤ i ∧ i < 2 ^ 62
def iRange1 (f : DA) : DI := fun ds Q => f ds fun es ds1 => rdAll es ds1 fun xs => match xs with
  | [.int n] => bnd62 n ∧ Q ⟨rngD 0 n.toNat, none⟩ ds1
  | _ => False
def iRange2 (f : DA) : DI := fun ds Q => f ds fun es ds1 => rdAll es ds1 fun xs => match xs with
  | [.int a, .int b] => (bnd62 a ∧ bnd62 b) ∧ Q ⟨rngD a (b - a).toNat, none⟩ ds1
  | _ => False
variable {a b : Expr} {p : Pos} {fa : DA}
theorem pvi_range1 (hg : Gl X "range") (hm : X.mg "range" = none) (ha : PVA X [a] fa) (hs : starEach [a] X.env = [(false, eval a X.env)] := by rfl) : PVI X pn tg (.Call (.Name "range" p) [a] [] pos) (iRange1 fa) := by
  obtain ⟨t, h1, h2⟩ := ha
  refine ⟨_, pi_range1 hg hm h1 hs, fun G ds σ H DQ R RR hf k => h2 G ds σ H _ _ RR hf fun es ds1 vs G1 H1 q1 R1 x1 r1 => ?_⟩
  obtain ⟨xs, s1, q2⟩ := rdAll_sh R1 r1 q1
  split at q2
  · obtain ⟨v, rfl, s⟩ := sha1 s1
    exact ⟨_, by rw [s.int], q2.1.1, q2.1.2, k _ _ _ _ _ q2.2 R1 x1 (itr_ok _ _)⟩
  · exact q2.elim
theorem pvi_range2 (hg : Gl X "range") (hm : X.mg "range" = none) (ha : PVA X [a, b] fa) (hs : starEach [a, b] X.env = [(false, eval a X.env), (false, eval b X.env)] := by rfl) (hs2 : starEach [b] X.env = [(false, eval b X.env)] := by rfl) : PVI X pn tg (.Call (.Name "range" p) [a, b] [] pos) (iRange2 fa) := by
  obtain ⟨t, h1, h2⟩ := ha
  refine ⟨_, pi_range2 hg hm h1 hs hs2, fun G ds σ H DQ R RR hf k => h2 G ds σ H _ _ RR hf fun es ds1 vs G1 H1 q1 R1 x1 r1 => ?_⟩
  obtain ⟨xs, s1, q2⟩ := rdAll_sh R1 r1 q1
  split at q2
  · obtain ⟨v, w, rfl, s, s'⟩ := sha2 s1
    exact ⟨_, _, by rw [s.int, s'.int], ⟨q2.1.1.1, q2.1.1.2, q2.1.2.1, q2.1.2.2⟩, k _ _ _ _ _ q2.2 R1 x1 (itr_ok _ _)⟩
  · exact q2.elim
end

/-! ### targets -/
abbrev DG := D → DS → (DS → Prop) → Prop
abbrev DGs := List D → DS → (DS → Prop) → Prop
def Off (sl : List Nat) (σ σ' : St) : Prop := σ'.length = σ.length ∧ ∀ i, i ∉ sl → σ'[i]? = σ[i]?
def PVG (X : Cx) (sl : List Nat) (tg : Expr) (g : DG) : Prop := ∃ t, PG X tg t ∧ ∀ (G : Hp) (ds : DS) (σ : St) (H : Hp) (v : V) (d : D) (DQ : DS → Prop) (Q : St → Hp → Prop), Rel X.K G ds σ H → Dp X.K G v d → g d ds DQ →
  (∀ ds' σ', DQ ds' → Rel X.K G ds' σ' H → Ext ds σ G H ds' σ' G H → Off sl σ σ' → Q σ' H) → t v σ H Q
def PVGs (X : Cx) (sl : List Nat) (tgs : List Expr) (g : DGs) : Prop := ∃ t, PGs X tgs t ∧ ∀ (G : Hp) (ds : DS) (σ : St) (H : Hp) (vs : List V) (xs : List D) (DQ : DS → Prop) (Q : St → Hp → Prop), Rel X.K G ds σ H → DpAll X.K G vs xs → g xs ds DQ →
  (∀ ds' σ', DQ ds' → Rel X.K G ds' σ' H → Ext ds σ G H ds' σ' G H → Off sl σ σ' → Q σ' H) → t vs σ H Q
def gN (i : Nat) : DG := fun d ds Q => Q (ds.set i (.fz d))
theorem set_get_v {σ : St} {i j : Nat} {v w : V} (h : (σ.set i (some w))[j]? = some (some v)) (n : j ≠ i) : σ[j]? = some (some v) := by
  rw [List.getElem?_set_ne (Ne.symm n)] at h; exact h
theorem owAt_put {ds : DS} {σ : St} {i j : Nat} {a : Addr} {s : Sl} {w : V} (hs : ∀ d, s ≠ .ow d) (h : OwAt (ds.set i s) (σ.set i (some w)) j a) : OwAt ds σ j a ∧ j ≠ i := by
  have h' : OwAt (ds.set i s) (σ.set i (some w)) j a := h
  obtain ⟨⟨d, e⟩, h2⟩ := h
  by_cases hij : i = j
  · subst hij
    rw [List.getElem?_set] at e
    rw [if_pos rfl] at e
    split at e
    · exact absurd (Option.some.inj e) (hs d)
    · cases e
  · rw [List.getElem?_set_ne hij] at e h2
    exact ⟨⟨⟨d, e⟩, h2⟩, fun z => hij z.symm⟩
/-- a slot is given a firm thing -/
theorem Rel.put {K : PySem.W.Frag} {G : Hp} {ds : DS} {σ : St} {H : Hp} (R : Rel K G ds σ H) (i : Nat) {v : V} {d : D} (h : Dp K G v d) : Rel K G (ds.set i (.fz d)) (σ.set i (some v)) H ∧ Ext ds σ G H (ds.set i (.fz d)) (σ.set i (some v)) G H := by
  refine ⟨⟨R.sub, by rw [List.length_set, List.length_set]; exact R.len, fun j d' e => ?_, fun j d' e => ?_, fun j k a p q => R.ap j k a (owAt_put (by intro _ z; cases z) p).1 (owAt_put (by intro _ z; cases z) q).1⟩, ⟨Same.refl G, fun _ _ h _ => h, fun b o h n => (by rw [n] at h; cases h), fun b ⟨j, q⟩ => .inl ⟨j, (owAt_put (by intro _ z; cases z) q).1⟩⟩⟩
  · by_cases hij : i = j
    · subst hij
      rw [List.getElem?_set] at e
      rw [if_pos rfl] at e
      split at e
      · rename_i hi
        cases e
        exact ⟨v, by rw [List.getElem?_set_self (by rw [← R.len]; exact hi)], h⟩
      · cases e
    · rw [List.getElem?_set_ne hij] at e ⊢
      exact R.fz j d' e
  · have hij : i ≠ j := by
      rintro rfl
      rw [List.getElem?_set] at e
      rw [if_pos rfl] at e
      split at e <;> cases e
    rw [List.getElem?_set_ne hij] at e ⊢
    exact R.ow j d' e
/-- a slot is given a thing made just now -/
theorem Rel.putO {K : PySem.W.Frag} {G : Hp} {ds : DS} {σ : St} {H : Hp} (R : Rel K G ds σ H) (i : Nat) {a : Addr} {o : HO} {d : D} (h1 : G a = none) (h2 : H a = some o) (h3 : Own K G o d) (h4 : ¬ Owns ds σ a) : Rel K G (ds.set i (.ow d)) (σ.set i (some (.ref a))) H ∧ ∀ b, Owns (ds.set i (.ow d)) (σ.set i (some (.ref a))) b → Owns ds σ b ∨ b = a := by
  have old : ∀ {j : Nat} {b : Addr}, OwAt (ds.set i (.ow d)) (σ.set i (some (.ref a))) j b → (j = i ∧ b = a) ∨ (j ≠ i ∧ OwAt ds σ j b) := fun {j b} ⟨⟨d', e⟩, s⟩ => by
    by_cases hij : i = j
    · subst hij
      refine .inl ⟨rfl, ?_⟩
      rw [List.getElem?_set] at s
      rw [if_pos rfl] at s
      split at s
      · cases s; rfl
      · cases s
    · rw [List.getElem?_set_ne hij] at e s
      exact .inr ⟨Ne.symm hij, ⟨d', e⟩, s⟩
  refine ⟨⟨R.sub, by rw [List.length_set, List.length_set]; exact R.len, fun j d' e => ?_, fun j d' e => ?_, fun j k b p q => ?_⟩, fun b ⟨j, q⟩ => ?_⟩
  · have hij : i ≠ j := by
      rintro rfl
      rw [List.getElem?_set] at e
      rw [if_pos rfl] at e
      split at e <;> cases e
    rw [List.getElem?_set_ne hij] at e ⊢
    exact R.fz j d' e
  · by_cases hij : i = j
    · subst hij
      rw [List.getElem?_set] at e
      rw [if_pos rfl] at e
      split at e
      · rename_i hi
        cases e
        exact ⟨a, o, by rw [List.getElem?_set_self (by rw [← R.len]; exact hi)], h1, h2, h3⟩
      · cases e
    · rw [List.getElem?_set_ne hij] at e ⊢
      exact R.ow j d' e
  · rcases old p with ⟨rfl, rfl⟩ | ⟨n1, p'⟩
    · rcases old q with ⟨rfl, _⟩ | ⟨n2, q'⟩
      · rfl
      · exact absurd ⟨k, q'⟩ h4
    · rcases old q with ⟨rfl, rfl⟩ | ⟨n2, q'⟩
      · exact absurd ⟨j, p'⟩ h4
      · exact R.ap j k b p' q'
  · rcases old q with ⟨rfl, rfl⟩ | ⟨_, q'⟩
    · exact .inr rfl
    · exact .inl ⟨j, q'⟩
theorem off_set {sl : List Nat} {σ : St} {i : Nat} {v : Option V} (h : i ∈ sl) : Off sl σ (σ.set i v) := ⟨by rw [List.length_set], fun j hj => List.getElem?_set_ne fun z => hj (by rw [← z]; exact h)⟩
theorem Off.trans {sl : List Nat} {σ σ1 σ2 : St} (a : Off sl σ σ1) (b : Off sl σ1 σ2) : Off sl σ σ2 := ⟨b.1.trans a.1, fun i h => (b.2 i h).trans (a.2 i h)⟩
section
variable {X : Cx} {sl : List Nat} {pos : Pos}
theorem pvg_name {i : Nat} {x : Str} (h : PG X (.Name x pos) (gName i)) (hi : i ∈ sl) : PVG X sl (.Name x pos) (gN i) :=
  ⟨_, h, fun G ds σ H v d DQ Q R p q k => k _ _ q (R.put i p).1 (R.put i p).2 (off_set hi)⟩
def gNl : DGs := fun xs ds Q => match xs with
  | [] => Q ds
  | _ :: _ => False
def gCs (g : DG) (gs : DGs) : DGs := fun xs ds Q => match xs with
  | [] => False
  | d :: r => g d ds fun ds1 => gs r ds1 Q
theorem pvgs_nil : PVGs X sl [] gNl := ⟨_, pgs_nil, fun G ds σ H vs xs DQ Q R p q k => by
  unfold gNl at q
  split at q
  · cases p
    exact ⟨rfl, k _ _ q R (Ext.refl ..) ⟨rfl, fun _ _ => rfl⟩⟩
  · exact q.elim⟩
theorem pvgs_cons {e : Expr} {es : List Expr} {g : DG} {gs : DGs} (h : PVG X sl e g) (hr : PVGs X sl es gs) (hs : (assignEach (e :: es) X.env).map (·.2) = assign e X.env :: (assignEach es X.env).map (·.2) := by rfl) : PVGs X sl (e :: es) (gCs g gs) := by
  obtain ⟨t, h1, h2⟩ := h
  obtain ⟨u, g1, g2⟩ := hr
  refine ⟨_, pgs_cons h1 g1 hs, fun G ds σ H vs xs DQ Q R p q k => ?_⟩
  unfold gCs at q
  split at q
  · exact q.elim
  · cases p with
    | cons p1 p2 =>
      refine ⟨_, _, rfl, h2 G ds σ H _ _ _ _ R p1 q fun ds1 σ1 q1 R1 x1 o1 => ?_⟩
      exact g2 G ds1 σ1 H _ _ _ _ R1 p2 q1 fun ds2 σ2 q2 R2 x2 o2 => k _ _ q2 R2 (x1.trans x2) (o1.trans o2)
def gT (n : Nat) (gs : DGs) : DG := fun d ds Q => itemsD d fun xs => whenB (lenIs xs n) (gs xs ds Q)
theorem pvg_tup {es : List Expr} {k : Nat} {gs : DGs} {n : Nat} (hc : X.calm = true) (h : PVGs X sl es gs) (hn : (assignEach es X.env).length = n := by rfl) (hst : (assignEach es X.env).findIdx? (·.1) = none := by rfl) : PVG X sl (.Tuple es k pos) (gT n gs) := by
  obtain ⟨t, h1, h2⟩ := h
  refine ⟨_, pg_seq (k := k) (pos := pos) hc h1 hn hst, fun G ds σ H v d DQ Q R p q k => ?_⟩
  obtain ⟨xs, e, q⟩ := itemsD_e q
  obtain ⟨l, q⟩ := whenB_e q
  have l := lenIs_e l
  obtain ⟨a, vs, rfl, hs, hp⟩ := dp_items p e
  rcases hs with hs | hs
  · exact .inr ⟨a, vs, rfl, SqL.mo R.sub hs, by rw [hp.len]; exact l, h2 G ds σ H vs xs _ _ R hp q k⟩
  · exact .inl ⟨a, vs, rfl, SqT.mo R.sub hs, by rw [hp.len]; exact l, h2 G ds σ H vs xs _ _ R hp q k⟩
end
end PV
end
section
set_option Elab.async false
set_option linter.all false
set_option maxRecDepth 100000
set_option maxHeartbeats 4000000
namespace PV
open PySem L2
/-! ### statements -/
structure DEn where
  nx : DS → Prop
  rt : Ev → DS → Prop
  bk : DS → Prop := fun _ => False
  ct : DS → Prop := fun _ => False
abbrev DSt := DEn → DS → Prop
structure Lnk (K : PySem.W.Frag) (pn : List Nat) (ds : DS) (σ : St) (G H : Hp) (E : DEn) (D : Ends) : Prop where
  nx : ∀ ds' σ' G' H', E.nx ds' → Rel K G' ds' σ' H' → Ext ds σ G H ds' σ' G' H' → Pin pn σ σ' → D.nx σ' H'
  rt : ∀ ev ds' σ' v G' H', E.rt ev ds' → Rel K G' ds' σ' H' → Ext ds σ G H ds' σ' G' H' → Pin pn σ σ' → EvR K G' ds' σ' H' v ev → FrN ds σ H v ev → D.rt v H'
  bk : ∀ ds' σ' G' H', E.bk ds' → Rel K G' ds' σ' H' → Ext ds σ G H ds' σ' G' H' → Pin pn σ σ' → D.bk σ' H'
  ct : ∀ ds' σ' G' H', E.ct ds' → Rel K G' ds' σ' H' → Ext ds σ G H ds' σ' G' H' → Pin pn σ σ' → D.ct σ' H'
theorem Lnk.step {K : PySem.W.Frag} {pn : List Nat} {ds : DS} {σ : St} {G H : Hp} {E : DEn} {D : Ends} (L : Lnk K pn ds σ G H E D) {ds1 : DS} {σ1 : St} {G1 H1 : Hp} (x : Ext ds σ G H ds1 σ1 G1 H1) (p : Pin pn σ σ1) : Lnk K pn ds1 σ1 G1 H1 E D where
  nx := fun ds' σ' G' H' q R y pi => L.nx ds' σ' G' H' q R (x.trans y) (p.trans pi)
  rt := fun ev ds' σ' v G' H' q R y pi r n => L.rt ev ds' σ' v G' H' q R (x.trans y) (p.trans pi) r (x.back n)
  bk := fun ds' σ' G' H' q R y pi => L.bk ds' σ' G' H' q R (x.trans y) (p.trans pi)
  ct := fun ds' σ' G' H' q R y pi => L.ct ds' σ' G' H' q R (x.trans y) (p.trans pi)
def PVS (X : Cx) (pn : List Nat) (st : Stmt) (f : DSt) : Prop := ∃ t, PS X st t ∧ ∀ (G : Hp) (ds : DS) (σ : St) (H : Hp) (E : DEn) (D : Ends), Rel X.K G ds σ H → f E ds → Lnk X.K pn ds σ G H E D → t D σ H
def PVB (X : Cx) (pn : List Nat) (sts : List Stmt) (f : DSt) : Prop := ∃ t, PSs X sts t ∧ ∀ (G : Hp) (ds : DS) (σ : St) (H : Hp) (E : DEn) (D : Ends), Rel X.K G ds σ H → f E ds → Lnk X.K pn ds σ G H E D → t D σ H
section
variable {X : Cx} {pn : List Nat} {st : Stmt} {rest : List Stmt} {f g : DSt} {pos : Pos}
def sNil : DSt := fun E ds => E.nx ds
def sSeq (f g : DSt) : DSt := fun E ds => f { E with nx := g E } ds
theorem pvb_nil : PVB X pn [] sNil := ⟨_, pss_nil, fun G ds σ H E D R q L => L.nx _ _ _ _ q R (Ext.refl ..) (Pin.refl _ _)⟩
theorem pvb_cons (h : PVS X pn st f) (hr : PVB X pn rest g) : PVB X pn (st :: rest) (sSeq f g) := by
  obtain ⟨t, h1, h2⟩ := h
  obtain ⟨u, g1, g2⟩ := hr
  refine ⟨_, pss_cons h1 g1, fun G ds σ H E D R q L => h2 G ds σ H _ _ R q ⟨fun ds' σ' G' H' q' R' x p => ?_, L.rt, L.bk, L.ct⟩⟩
  exact g2 G' ds' σ' H' E D R' q' (L.step x p)
theorem pvb_one (h : PVS X pn st f) : PVB X pn [st] f := by
  obtain ⟨t, h1, h2⟩ := h
  exact ⟨_, pss_one h1, h2⟩
theorem pvs_pass : PVS X pn (.Pass pos) sNil := ⟨_, ps_pass, fun G ds σ H E D R q L => L.nx _ _ _ _ q R (Ext.refl ..) (Pin.refl _ _)⟩
def sBk : DSt := fun E ds => E.bk ds
def sCt : DSt := fun E ds => E.ct ds
theorem pvs_break : PVS X pn (.Break pos) sBk := ⟨_, ps_break, fun G ds σ H E D R q L => L.bk _ _ _ _ q R (Ext.refl ..) (Pin.refl _ _)⟩
theorem pvs_continue : PVS X pn (.Continue pos) sCt := ⟨_, ps_continue, fun G ds σ H E D R q L => L.ct _ _ _ _ q R (Ext.refl ..) (Pin.refl _ _)⟩
def sEx (f : DE) : DSt := fun E ds => f ds fun _ ds1 => E.nx ds1
theorem pvs_expr {e : Expr} {fe : DE} (h : PVE X e fe) (hs : swapsWith e none pos.line X.env = pure false := by rfl) : PVS X pn (.Expr e pos) (sEx fe) := by
  obtain ⟨t, h1, h2⟩ := h
  exact ⟨_, ps_expr h1 hs, fun G ds σ H E D R q L => h2 G ds σ H _ _ R q fun ev ds1 v G1 H1 q1 R1 x1 r1 n1 => L.nx _ _ _ _ q1 R1 x1 (Pin.refl _ _)⟩
theorem pvs_doc {x j pos pos'} : PVS X pn (.Expr (.Constant (.str x) j pos) pos') sNil := ⟨_, ps_doc, fun G ds σ H E D R q L => L.nx _ _ _ _ q R (Ext.refl ..) (Pin.refl _ _)⟩
/-! return -/
theorem Rel.drop {K : PySem.W.Frag} {G : Hp} {ds : DS} {σ : St} {H : Hp} (R : Rel K G ds σ H) (i : Nat) : Rel K G (ds.set i .no) σ H ∧ Ext ds σ G H (ds.set i .no) σ G H := by
  refine ⟨⟨R.sub, by rw [List.length_set]; exact R.len, fun j d e => ?_, fun j d e => ?_, fun j k a p q => R.ap j k a (owAt_set (by intro _ z; cases z) p).1 (owAt_set (by intro _ z; cases z) q).1⟩, ⟨Same.refl G, fun _ _ h _ => h, fun b o h n => (by rw [n] at h; cases h), fun b ⟨j, q⟩ => .inl ⟨j, (owAt_set (by intro _ z; cases z) q).1⟩⟩⟩
  · have hij : i ≠ j := by
      rintro rfl
      rw [List.getElem?_set] at e
      rw [if_pos rfl] at e
      split at e <;> cases e
    rw [List.getElem?_set_ne hij] at e
    exact R.fz j d e
  · have hij : i ≠ j := by
      rintro rfl
      rw [List.getElem?_set] at e
      rw [if_pos rfl] at e
      split at e <;> cases e
    rw [List.getElem?_set_ne hij] at e
    exact R.ow j d e
def retv (pn : List Nat) (e : Ev) (ds : DS) (Q : Ev → DS → Prop) : Prop := match e with
  | .val d => Q (.val d) ds
  | .fresh d => Q (.fresh d) ds
  | .at_ i => match ds[i]? with
    | some (.fz d) => Q (.val d) ds
    | some (.ow d) => if i ∈ pn then Q (.val d) (ds.set i (.fz d)) else Q (.fresh d) (ds.set i .no)
    | _ => False
def sRet (pn : List Nat) (f : DE) : DSt := fun E ds => f ds fun e ds1 => retv pn e ds1 E.rt
theorem pvs_ret {e : Expr} {fe : DE} (h : PVE X e fe) : PVS X pn (.Return (some e) pos) (sRet pn fe) := by
  obtain ⟨t, h1, h2⟩ := h
  refine ⟨_, ps_ret h1, fun G ds σ H E D R q L => h2 G ds σ H _ _ R q fun ev ds1 v G1 H1 q1 R1 x1 r1 n1 => ?_⟩
  cases ev with
  | val d => exact L.rt _ _ _ _ _ _ q1 R1 x1 (Pin.refl _ _) r1 n1
  | fresh d => exact L.rt _ _ _ _ _ _ q1 R1 x1 (Pin.refl _ _) r1 n1
  | at_ i =>
    have r1 : σ[i]? = some (some v) := r1
    unfold retv at q1
    simp only at q1
    split at q1
    · rename_i d e
      obtain ⟨v', h1, h2⟩ := R1.fz i d e
      rw [r1] at h1; cases h1
      exact L.rt _ _ _ _ _ _ q1 R1 x1 (Pin.refl _ _) h2 trivial
    · rename_i d e
      split at q1
      · obtain ⟨a, G2, h1, R2, x2, p2⟩ := R1.firmAt e
        rw [r1] at h1; cases h1
        exact L.rt _ _ _ _ _ _ q1 R2 (x1.trans x2) (Pin.refl _ _) p2 trivial
      · obtain ⟨a, o, h1, h2, h3, h4⟩ := R1.ow i d e
        rw [r1] at h1; cases h1
        obtain ⟨R2, x2⟩ := R1.drop i
        have oa : OwAt ds1 σ i a := ⟨⟨d, e⟩, r1⟩
        refine L.rt _ _ _ _ _ _ q1 R2 (x1.trans x2) (Pin.refl _ _) ⟨a, o, rfl, h2, h3, h4, fun ⟨j, z⟩ => ?_⟩ fun b e => ?_
        · obtain ⟨z1, z2⟩ := owAt_set (by intro _ z; cases z) z
          exact z2 (R1.ap j i a z1 oa)
        · cases e
          exact (x1.ow a ⟨i, oa⟩).symm
    · exact q1.elim
def sRetN : DSt := fun E ds => E.rt (.val .none) ds
theorem pvs_retN : PVS X pn (.Return none pos) sRetN := ⟨_, ps_retN, fun G ds σ H E D R q L => L.rt _ _ _ _ _ _ q R (Ext.refl ..) (Pin.refl _ _) .non trivial⟩
/-! if -/
def sIf (t : DT) (f g : DSt) : DSt := fun E ds => t ds fun b ds1 => br b (f E ds1) (g E ds1)
theorem pvs_if {c : Expr} {a b : List Stmt} {tc : DT} (hc : PVT X c tc) (ha : PVB X pn a f) (hb : PVB X pn b g) : PVS X pn (.If c a b pos) (sIf tc f g) := by
  obtain ⟨t, h1, h2⟩ := hc
  obtain ⟨u, g1, g2⟩ := ha
  obtain ⟨w, k1, k2⟩ := hb
  refine ⟨_, ps_if h1 g1 k1, fun G ds σ H E D R q L => h2 G ds σ H _ _ R q fun c ds1 G1 H1 q1 R1 x1 => ?_⟩
  cases c with
  | true => exact g2 G1 ds1 σ H1 E D R1 q1 (L.step x1 (Pin.refl _ _))
  | false => exact k2 G1 ds1 σ H1 E D R1 q1 (L.step x1 (Pin.refl _ _))
/-! name = value -/
def stv (i : Nat) (e : Ev) (ds : DS) (Q : DS → Prop) : Prop := match e with
  | .val d => Q (ds.set i (.fz d))
  | .fresh d => Q (ds.set i (.ow d))
  | .at_ j => match ds[j]? with
    | some (.fz d) => Q (ds.set i (.fz d))
    | some (.ow d) => Q ((ds.set j (.fz d)).set i (.fz d))
    | _ => False
theorem pin_set {σ : St} {i : Nat} {v : Option V} (h : i ∉ pn) : Pin pn σ (σ.set i v) := fun j hj => List.getElem?_set_ne fun z => h (by rw [z]; exact hj)
theorem stv_ok {G : Hp} {ds : DS} {σ : St} {H : Hp} {E : DEn} {D : Ends} (L : Lnk X.K pn ds σ G H E D) {ev : Ev} {ds1 : DS} {v : V} {G1 H1 : Hp} {i : Nat} (hi : i ∉ pn) (q : stv i ev ds1 E.nx) (R1 : Rel X.K G1 ds1 σ H1) (x1 : Ext ds σ G H ds1 σ G1 H1)
    (r1 : EvR X.K G1 ds1 σ H1 v ev) (n1 : FrN ds σ H v ev) : D.nx (σ.set i (some v)) H1 := by
  cases ev with
  | val d => exact L.nx _ _ _ _ q (R1.put i r1).1 (x1.trans (R1.put i r1).2) (pin_set hi)
  | fresh d =>
    obtain ⟨a, o, rfl, h1, h2, h3, h4⟩ := r1
    obtain ⟨R2, o2⟩ := R1.putO i h1 h2 h3 h4
    refine L.nx _ _ _ _ q R2 ⟨x1.gg, x1.fr, x1.nw, fun b z => ?_⟩ (pin_set hi)
    rcases o2 b z with z | z
    · exact x1.ow b z
    · rw [z]; exact (n1 a rfl).symm
  | at_ j =>
    have r1 : σ[j]? = some (some v) := r1
    unfold stv at q
    simp only at q
    split at q
    · rename_i d e
      obtain ⟨v', h1, h2⟩ := R1.fz j d e
      rw [r1] at h1; cases h1
      exact L.nx _ _ _ _ q (R1.put i h2).1 (x1.trans (R1.put i h2).2) (pin_set hi)
    · rename_i d e
      obtain ⟨a, G2, h1, R2, x2, p2⟩ := R1.firmAt e
      rw [r1] at h1; cases h1
      exact L.nx _ _ _ _ q (R2.put i p2).1 ((x1.trans x2).trans (R2.put i p2).2) (pin_set hi)
    · exact q.elim
def sSet (i : Nat) (f : DE) : DSt := fun E ds => f ds fun e ds1 => stv i e ds1 E.nx
/-- the statement's own rule is handed over (it has two forms) -/
theorem pvs_set {i : Nat} {e tgt : Expr} {fe : DE} (h : PVE X e fe) (hi : i ∉ pn) (hs : ∀ te, PE X e te → PS X (.Assign [tgt] e pos) (tAsg te (gName i))) : PVS X pn (.Assign [tgt] e pos) (sSet i fe) := by
  obtain ⟨t, h1, h2⟩ := h
  exact ⟨_, hs t h1, fun G ds σ H E D R q L => h2 G ds σ H _ _ R q fun ev ds1 v G1 H1 q1 R1 x1 r1 n1 => stv_ok L hi q1 R1 x1 r1 n1⟩
/-- a target of any form -/
def sAsg (f : DF) (g : DG) : DSt := fun E ds => f ds fun d ds1 => g d ds1 E.nx
def apart (sl pn : List Nat) : Bool := sl.all fun i => decide (i ∉ pn)
theorem off_pin {sl : List Nat} {σ σ' : St} (o : Off sl σ σ') (h : apart sl pn = true) : Pin pn σ σ' := fun i hi => o.2 i fun z => by
  have := (List.all_eq_true.mp h) i z
  exact of_decide_eq_true this hi
theorem pvs_asg {tg e : Expr} {fe : DE} {g : DG} {sl : List Nat} (h : PVE X e fe) (hg : PVG X sl tg g) (hp : apart sl pn = true) (hs : swapsWithSole [tg] e pos.line X.env = pure false := by rfl) (hw : swappedStores [tg] e X.env = pure none := by rfl)
    (h1 : (assignEach [tg] X.env).map (·.2) = [assign tg X.env] := by rfl) : PVS X pn (.Assign [tg] e pos) (sAsg (eFz fe) g) := by
  obtain ⟨t, a1, a2⟩ := h.fz
  obtain ⟨u, b1, b2⟩ := hg
  exact ⟨_, ps_asg a1 b1 hs hw h1, fun G ds σ H E D R q L => a2 G ds σ H _ _ R q fun d ds1 v G1 H1 q1 R1 x1 p1 => b2 G1 ds1 σ H1 v d _ _ R1 p1 q1 fun ds2 σ2 q2 R2 x2 o2 => L.nx _ _ _ _ q2 R2 (x1.trans x2) (off_pin o2 hp)⟩
/-- a, b = x, y -/
def sPar (i j : Nat) (fa : DA) : DSt := fun E ds => fa ds fun es ds1 => frzAll es ds1 fun xs ds2 => match xs with
  | [d, e] => E.nx ((ds2.set i (.fz d)).set j (.fz e))
  | _ => False
theorem pvs_par {i j : Nat} {x y : Str} {a b : Expr} {fa : DA} {px py pt : Pos} {kt k2 pt2} (ha : PVA X [a, b] fa) (hi : i ∉ pn) (hj : j ∉ pn)
    (hs : ∀ ta, PA X [a, b] ta → PS X (.Assign [.Tuple [.Name x px, .Name y py] kt pt] (.Tuple [a, b] k2 pt2) pos) (tPar i j ta)) : PVS X pn (.Assign [.Tuple [.Name x px, .Name y py] kt pt] (.Tuple [a, b] k2 pt2) pos) (sPar i j fa) := by
  obtain ⟨t, h1, h2⟩ := ha
  refine ⟨_, hs t h1, fun G ds σ H E D R q L => h2 G ds σ H _ _ R q fun es ds1 vs G1 H1 q1 R1 x1 r1 => ?_⟩
  obtain ⟨xs, ds2, G2, q2, R2, p2, x2⟩ := frzAll_ok R1 r1 q1
  split at q2
  · cases p2 with
    | cons p p2 =>
      cases p2 with
      | cons p' p2 =>
        cases p2
        have A := R2.put i p
        have B := A.1.put j p'
        exact ⟨_, _, rfl, L.nx _ _ _ _ q2 B.1 ((x1.trans x2).trans (A.2.trans B.2)) ((pin_set hi).trans (pin_set hj))⟩
  · exact q2.elim
/-- xs[i] = v, xs a list of one's own -/
def ixD (len : Nat) (n : Int) (k : Nat → Prop) : Prop := match ixN len n with
  | some j => k j
  | none => False
def setN (l : List D) (ix d : D) (Q : List D → Prop) : Prop := match ix with
  | .int n => ixD l.length n fun j => Q (l.set j d)
  | _ => False
theorem setN_v {l : List D} {ix d : D} {Q : List D → Prop} (h : setN l ix d Q) : ∃ n j, ix = .int n ∧ ixN l.length n = some j ∧ Q (l.set j d) := by
  unfold setN ixD at h
  split at h
  · split at h
    · rename_i n j e
      exact ⟨_, _, rfl, e, h⟩
    · exact h.elim
  · exact h.elim
def sSetIx (i : Nat) (f : DE) (k : DE) : DSt := fun E ds => eFz f ds fun d ds1 => withLs ds1 i (k ds1 fun e ds2 => rd e ds2 fun ix => mutAt ds2 i fun l => setN l ix d fun l' => E.nx (ds2.set i (.ow (.list l'))))
theorem pvs_setIx {i : Nat} {x : Str} {p pos' : Pos} {e ke : Expr} {fe fk : DE} (h : PVE X e fe) (hk : PVE X ke fk) (hv : PE X (.Name x p) (tVar i)) (hs : swapsWithSole [.Subscript (.Name x p) ke pos'] e pos.line X.env = pure false := by rfl) (hw : swappedStores [.Subscript (.Name x p) ke pos'] e X.env = pure none := by rfl)
    (h1 : (assignEach [.Subscript (.Name x p) ke pos'] X.env).map (·.2) = [assign (.Subscript (.Name x p) ke pos') X.env] := by rfl)
    (ha : ∀ v, assign (.Subscript (.Name x p) ke pos') X.env v = (do
      let ov ← holding [v] (eval (.Name x p) X.env)
      let iv ← holding [v, ov] (eval ke X.env)
      standAt pos'
      holding [v, ov, iv] (setItem ov iv v)
      release [v, ov, iv] []) := by intro _; rfl) : PVS X pn (.Assign [.Subscript (.Name x p) ke pos'] e pos) (sSetIx i fe fk) := by
  obtain ⟨t, a1, a2⟩ := h.fz
  obtain ⟨u, b1, b2⟩ := hk
  refine ⟨_, ps_asg a1 (pg_sub hv b1 set_list ha) hs hw h1, fun G ds σ H E D R q L => a2 G ds σ H _ _ R q fun d ds1 v G1 H1 q1 R1 x1 p1 => ?_⟩
  obtain ⟨q1, a, ea, _⟩ := isLs_v R1 q1
  refine ⟨.ref a, ea, b2 G1 ds1 σ H1 _ _ R1 q1 fun ev ds2 iv G2 H2 q2 R2 x2 r2 n2 => ?_⟩
  obtain ⟨ix, s2, q3⟩ := rd_sh R2 r2 q2
  obtain ⟨l, e, q4⟩ := mutAt_v q3
  obtain ⟨n, j, rfl, e2, q5⟩ := setN_v q4
  obtain ⟨a', o, g1, g2, g3, g4⟩ := R2.ow i _ e
  rw [ea] at g1; cases g1
  obtain ⟨us, l', rfl, e', h5⟩ := own_lst g4
  cases e'
  obtain ⟨R3, x3⟩ := R2.mut e ea (o := .lst (us.set j v)) (d' := .list (l.set j d)) (DpAll.set (Dp.mo x2.gg _ _ p1) j h5)
  exact ⟨a, us, n, j, rfl, s2.int, g3, by rw [h5.len]; exact e2, L.nx _ _ _ _ q5 R3 (x1.trans (x2.trans x3)) (Pin.refl _ _)⟩
/-! name op= e; xs[i] op= e -/
def valD (e : Ev) (Q : D → Prop) : Prop := match e with
  | .val d => Q d
  | _ => False
theorem valD_v {e : Ev} {Q : D → Prop} (h : valD e Q) : ∃ d, e = .val d ∧ Q d := by
  unfold valD at h
  split at h
  · exact ⟨_, rfl, h⟩
  · exact h.elim
def fzAt (ds : DS) (i : Nat) (Q : D → Prop) : Prop := match ds[i]? with
  | some (.fz d) => Q d
  | _ => False
theorem fzAt_v {ds : DS} {i : Nat} {Q : D → Prop} (h : fzAt ds i Q) : ∃ d, ds[i]? = some (.fz d) ∧ Q d := by
  unfold fzAt at h
  split at h
  · rename_i d e; exact ⟨d, e, h⟩
  · exact h.elim
def sAug (i : Nat) (op : DOp) (f : DE) : DSt := fun E ds => fzAt ds i fun d0 => f ds fun e ds1 => rd e ds1 fun d1 => op d0 d1 fun ev => valD ev fun r => E.nx (ds1.set i (.fz r))
theorem pvs_aug {i : Nat} {x : Str} {e : Expr} {fe : DE} {op : Operator} {dop : DOp} {pos' : Pos} (ho : OpV X (inplaceOp op) dop) (h : PVE X e fe) (hi : i ∉ pn) (hs : ∀ te ti, PE X e te → PIp X op ti → PS X (.AugAssign (.Name x pos') op e pos) (tAug i te ti)) : PVS X pn (.AugAssign (.Name x pos') op e pos) (sAug i dop fe) := by
  obtain ⟨r, hr, hop⟩ := ho
  obtain ⟨t, a1, a2⟩ := h
  refine ⟨_, hs t r a1 hr, fun G ds σ H E D R q L => ?_⟩
  obtain ⟨d0, e0, q⟩ := fzAt_v q
  obtain ⟨v, h1, h2⟩ := R.fz i d0 e0
  refine ⟨v, h1, a2 G ds σ H _ _ R q fun ev ds1 w G1 H1 q1 R1 x1 r1 n1 => ?_⟩
  obtain ⟨d1, s1, q2⟩ := rd_sh R1 r1 q1
  refine hop G1 ds1 σ H1 v w d0 d1 _ _ R1 (.inl (Dp.mo x1.gg _ _ h2)) s1 q2 fun ev' z G2 H2 q3 R2 x2 r2 n2 => ?_
  obtain ⟨d, rfl, q4⟩ := valD_v q3
  exact L.nx _ _ _ _ q4 (R2.put i r2).1 ((x1.trans x2).trans (R2.put i r2).2) (pin_set hi)
def sAugIx (i : Nat) (op : DOp) (k f : DE) : DSt := fun E ds => withLs ds i (k ds fun e1 ds1 => rd e1 ds1 fun ix => mutAt ds1 i fun l0 => oIx (.list l0) ix fun ev0 => valD ev0 fun d0 =>
  f ds1 fun e2 ds2 => rd e2 ds2 fun d2 => op d0 d2 fun ev => valD ev fun r => mutAt ds2 i fun l => setN l ix r fun l' => E.nx (ds2.set i (.ow (.list l'))))
theorem pvs_augIx {i : Nat} {x : Str} {p tpos : Pos} {ke e : Expr} {fk fe : DE} {op : Operator} {dop : DOp} (ho : OpV X (inplaceOp op) dop) (hk : PVE X ke fk) (h : PVE X e fe) (hv : PE X (.Name x p) (tVar i))
    (ha : ∀ ov iv new, augStore ke ov iv new = (do holding [new, ov, iv] (setItem ov iv new); release [new, ov, iv] []; pure .next) := by intros; rfl) : PVS X pn (.AugAssign (.Subscript (.Name x p) ke tpos) op e pos) (sAugIx i dop fk fe) := by
  obtain ⟨r, hr, hop⟩ := ho
  obtain ⟨u, b1, b2⟩ := hk
  obtain ⟨t, a1, a2⟩ := h
  refine ⟨_, ps_augS hv b1 get_list a1 (show PIp X op r from hr) set_list ha, fun G ds σ H E D R q L => ?_⟩
  obtain ⟨q, a, ea, _⟩ := isLs_v R q
  refine ⟨.ref a, ea, b2 G ds σ H _ _ R q fun e1 ds1 iv G1 H1 q1 R1 x1 r1 n1 => ?_⟩
  obtain ⟨ix, s1, q1⟩ := rd_sh R1 r1 q1
  obtain ⟨l0, g0, q1⟩ := mutAt_v q1
  obtain ⟨a', o, g1, g2, g3, g4⟩ := R1.ow i _ g0
  rw [ea] at g1; cases g1
  obtain ⟨us, l0', rfl, e', h5⟩ := own_lst g4
  cases e'
  unfold oIx at q1
  cases ix with
  | int n =>
    simp only at q1
    obtain ⟨v0, d0, e2, p0, q1⟩ := atD_v h5 q1
    have q1 : (fe ds1 fun e2 ds2 => rd e2 ds2 fun d2 => dop d0 d2 fun ev => valD ev fun r => mutAt ds2 i fun l => setN l (.int n) r fun l' => E.nx (ds2.set i (.ow (.list l')))) := q1
    refine ⟨a, us, n, v0, rfl, s1.int, .inl (.inl g3), e2, a2 G1 ds1 σ H1 _ _ R1 q1 fun ev ds2 w G2 H2 q2 R2 x2 r2 n2 => ?_⟩
    obtain ⟨d2, s2, q2⟩ := rd_sh R2 r2 q2
    refine hop G2 ds2 σ H2 v0 w d0 d2 _ _ R2 (.inl (Dp.mo x2.gg _ _ p0)) s2 q2 fun ev' z G3 H3 q3 R3 x3 r3 n3 => ?_
    obtain ⟨d, rfl, q3⟩ := valD_v q3
    obtain ⟨l, g5, q3⟩ := mutAt_v q3
    obtain ⟨n', j, e3, e4, q3⟩ := setN_v q3
    cases e3
    obtain ⟨a', o, k1, k2, k3, k4⟩ := R3.ow i _ g5
    rw [ea] at k1; cases k1
    obtain ⟨us', l', rfl, e', h6⟩ := own_lst k4
    cases e'
    obtain ⟨R4, x4⟩ := R3.mut g5 ea (o := .lst (us'.set j z)) (d' := .list (l.set j d)) (DpAll.set r3 j h6)
    exact ⟨a, us', n, j, rfl, s1.int, k3, by rw [h6.len]; exact e4, L.nx _ _ _ _ q3 R4 (x1.trans (x2.trans (x3.trans x4))) (Pin.refl _ _)⟩
  | _ => exact q1.elim
/-! ### loops -/
/-- the turns left -/
def forGo (ok : DS → Prop → Prop) (g : DG) (b : DSt) : List D → DEn → DS → Prop
  | [], E, ds => ok ds (E.nx ds)
  | x :: xs, E, ds => ok ds (g x ds fun ds1 => b { E with nx := forGo ok g b xs E, ct := forGo ok g b xs E, bk := E.nx } ds1)
def sFor (it : DI) (g : DG) (b : DSt) : DSt := fun E ds => it ds fun i ds1 => forGo (guard i.sl i.xs) g b i.xs E ds1
theorem pvs_for {pn' : List Nat} {tg iter : Expr} {body : List Stmt} {it : DI} {g : DG} {b : DSt} {sl : List Nat} (hcalm : X.calm = true) (hp : PySem.PassesOwn (model X.prog X.w) X.A X.env X.xe) (hi : PVI X pn' tg iter it) (hg : PVG X sl tg g) (hb : PVB X pn' body b) (hsub : apart sl pn' = true) (hpn : ∀ i ∈ pn, i ∈ pn')
    (hs : ∀ x, foldedSetIterable iter X.env x = pure x := by intro _; rfl) : PVS X pn (.For tg iter body [] pos) (sFor it g b) := by
  obtain ⟨wi, i1, i2⟩ := hi
  obtain ⟨tg', g1, g2⟩ := hg
  obtain ⟨tb, b1, b2⟩ := hb
  refine ⟨_, ps_for hp hcalm i1 g1 b1 hs, fun G ds σ H E D R q L => i2 G ds σ H _ _ R q fun i ds1 J G1 H1 q1 R1 x1 io => ?_⟩
  refine ⟨fun k m τ Hk => m = i.xs.length - k ∧ k ≤ i.xs.length ∧ ∃ dk Gk, Rel X.K Gk dk τ Hk ∧ Ext ds1 σ G1 H1 dk τ Gk Hk ∧ Pin pn' σ τ ∧ forGo (guard i.sl i.xs) g b (i.xs.drop k) E dk, ⟨i.xs.length, by simp, Nat.zero_le _, ds1, G1, R1, Ext.refl .., Pin.refl _ _, by simpa using q1⟩, ?_⟩
  rintro k m τ Hk ⟨rfl, hk, dk, Gk, Rk, xk, pk, qk⟩
  have Lk : Lnk X.K pn dk τ Gk Hk E D := L.step (x1.trans xk) fun j hj => pk j (hpn j hj)
  by_cases hlt : k < i.xs.length
  · obtain ⟨d, hd⟩ : ∃ d, i.xs[k]? = some d := ⟨_, List.getElem?_eq_getElem hlt⟩
    have ed : i.xs.drop k = d :: i.xs.drop (k + 1) := by
      rw [List.drop_eq_getElem_cons hlt]
      rw [List.getElem?_eq_getElem hlt] at hd
      cases hd; rfl
    rw [ed] at qk
    obtain ⟨ok, qk⟩ := guard_e qk
    obtain ⟨_, io2⟩ := io Gk dk τ Hk Rk xk.gg pk ok
    obtain ⟨go, yl⟩ := io2 k d hd
    refine .inr ⟨go, fun τ' H' => ∃ m', m' < i.xs.length - k ∧ (m' = i.xs.length - (k + 1) ∧ k + 1 ≤ i.xs.length ∧ ∃ dk' Gk', Rel X.K Gk' dk' τ' H' ∧ Ext ds1 σ G1 H1 dk' τ' Gk' H' ∧ Pin pn' σ τ' ∧ forGo (guard i.sl i.xs) g b (i.xs.drop (k + 1)) E dk'), fun τ' H' h => h, fun v H' y => ?_⟩
    obtain ⟨G2, R2, x2, p2⟩ := yl v H' y
    refine g2 G2 dk τ H' v d _ _ R2 p2 qk fun d3 τ3 q3 R3 x3 o3 => ?_
    have p3 : Pin pn' τ τ3 := off_pin o3 hsub
    have x03 := x2.trans x3
    have nxt : ∀ ds' σ' G' H'', forGo (guard i.sl i.xs) g b (i.xs.drop (k + 1)) E ds' → Rel X.K G' ds' σ' H'' → Ext d3 τ3 G2 H' ds' σ' G' H'' → Pin pn' τ3 σ' → ∃ m', m' < i.xs.length - k ∧ (m' = i.xs.length - (k + 1) ∧ k + 1 ≤ i.xs.length ∧ ∃ dk' Gk', Rel X.K Gk' dk' σ' H'' ∧ Ext ds1 σ G1 H1 dk' σ' Gk' H'' ∧ Pin pn' σ σ' ∧ forGo (guard i.sl i.xs) g b (i.xs.drop (k + 1)) E dk') :=
      fun ds' σ' G' H'' q' R' x' p' => ⟨i.xs.length - (k + 1), by omega, rfl, hlt, ds', G', R', xk.trans (x03.trans x'), pk.trans (p3.trans p'), q'⟩
    have L3 : Lnk X.K pn d3 τ3 G2 H' E D := Lk.step x03 fun j hj => p3 j (hpn j hj)
    refine b2 G2 d3 τ3 H' _ _ R3 q3 ⟨nxt, fun ev ds' σ' v G' H'' q R x p r n => ?_, fun ds' σ' G' H'' q R x p => ?_, nxt⟩
    · exact L3.rt ev ds' σ' v G' H'' q R x (fun j hj => p j (hpn j hj)) r n
    · exact L3.nx ds' σ' G' H'' q R x fun j hj => p j (hpn j hj)
  · have ek : k = i.xs.length := by omega
    subst ek
    rw [List.drop_length] at qk
    obtain ⟨ok, qk⟩ := guard_e qk
    obtain ⟨st, _⟩ := io Gk dk τ Hk Rk xk.gg pk ok
    exact .inl ⟨st, Lk.nx _ _ _ _ qk Rk (Ext.refl ..) (Pin.refl _ _)⟩
def sWhile (t : DT) (b : DSt) : DSt := fun E ds => ∃ W : Nat → DS → Prop, (∃ m, W m ds) ∧ ∀ m ds, W m ds →
  t ds fun c ds1 => br c (b { E with nx := fun ds2 => ∃ m', m' < m ∧ W m' ds2, ct := fun ds2 => ∃ m', m' < m ∧ W m' ds2, bk := E.nx } ds1) (E.nx ds1)
theorem pvs_while {c : Expr} {body : List Stmt} {tc : DT} {b : DSt} (hp : PySem.PassesOwn (model X.prog X.w) X.A X.env X.xe) (hc : PVT X c tc) (hb : PVB X pn body b) : PVS X pn (.While c body [] pos) (sWhile tc b) := by
  obtain ⟨t, c1, c2⟩ := hc
  obtain ⟨tb, b1, b2⟩ := hb
  refine ⟨_, ps_while hp c1 b1, fun G ds σ H E D R q L => ?_⟩
  obtain ⟨W, ⟨m0, w0⟩, turn⟩ := q
  refine ⟨fun m τ Hk => ∃ dk Gk, Rel X.K Gk dk τ Hk ∧ Ext ds σ G H dk τ Gk Hk ∧ Pin pn σ τ ∧ W m dk, ⟨m0, ds, G, R, Ext.refl .., Pin.refl _ _, w0⟩, ?_⟩
  rintro m τ Hk ⟨dk, Gk, Rk, xk, pk, wk⟩
  have Lk := L.step xk pk
  refine c2 Gk dk τ Hk _ _ Rk (turn m dk wk) fun d ds1 G1 H1 q1 R1 x1 => ?_
  cases d with
  | false => exact Lk.nx _ _ _ _ q1 R1 x1 (Pin.refl _ _)
  | true =>
    have L1 := Lk.step x1 (Pin.refl _ _)
    have nxt : ∀ ds' σ' G' H', (∃ m', m' < m ∧ W m' ds') → Rel X.K G' ds' σ' H' → Ext ds1 τ G1 H1 ds' σ' G' H' → Pin pn τ σ' → ∃ m', m' < m ∧ ∃ dk Gk, Rel X.K Gk dk σ' H' ∧ Ext ds σ G H dk σ' Gk H' ∧ Pin pn σ σ' ∧ W m' dk :=
      fun ds' σ' G' H' ⟨m', hm, w'⟩ R' x' p' => ⟨m', hm, ds', G', R', xk.trans (x1.trans x'), pk.trans p', w'⟩
    exact ⟨_, fun σ' H' h => h, b2 G1 ds1 τ H1 _ _ R1 q1 ⟨nxt, L1.rt, L1.nx, nxt⟩⟩
end
end PV
end
section
set_option Elab.async false
set_option linter.all false
set_option maxRecDepth 100000
set_option maxHeartbeats 4000000
namespace PV
open PySem L2
/-! ### readings of one's own, the same in every context -/
def tOf (K : PySem.W.Frag) (f : DF) : TE := fun σ H Q => ∃ (G : Hp) (ds : DS) (DQ : D → DS → Prop), Rel K G ds σ H ∧ f ds DQ ∧ ∀ d ds' v G' H', DQ d ds' → Rel K G' ds' σ H' → Ext ds σ G H ds' σ G' H' → Dp K G' v d → Q v H'
theorem PVF.pe {X : Cx} {e : Expr} {f : DF} (h : PVF X e f) : PE X e (tOf X.K f) := by
  obtain ⟨t, h1, h2⟩ := h
  exact ⟨fun pins s σ H Q I ⟨G, ds, DQ, R, q, k⟩ => h1.run pins s σ H Q I (h2 G ds σ H DQ Q R q k)⟩
def tOfT (K : PySem.W.Frag) (f : DT) : TT := fun σ H Q => ∃ (G : Hp) (ds : DS) (DQ : Bool → DS → Prop), Rel K G ds σ H ∧ f ds DQ ∧ ∀ d ds' G' H', DQ d ds' → Rel K G' ds' σ H' → Ext ds σ G H ds' σ G' H' → Q d H'
def PVTs (X : Cx) (es : List Expr) (f : DT) : Prop := ∃ t, PTs X es t ∧ ∀ (G : Hp) (ds : DS) (σ : St) (H : Hp) (DQ : Bool → DS → Prop) (Q : Bool → Hp → Prop), Rel X.K G ds σ H → f ds DQ →
  (∀ b ds' G' H', DQ b ds' → Rel X.K G' ds' σ H' → Ext ds σ G H ds' σ G' H' → Q b H') → t σ H Q
def tTrue : DT := fun ds Q => Q true ds
theorem pvts_nil {X : Cx} : PVTs X [] tTrue := ⟨_, pts_nil, fun G ds σ H DQ Q R q k => k _ _ _ _ q R (Ext.refl ..)⟩
theorem pvts_one {X : Cx} {e : Expr} {f : DT} (h : PVT X e f) : PVTs X [e] f := by
  obtain ⟨t, h1, h2⟩ := h
  exact ⟨_, pts_one h1, h2⟩
theorem PVTs.pe {X : Cx} {es : List Expr} {f : DT} (h : PVTs X es f) : PTs X es (tOfT X.K f) := by
  obtain ⟨t, h1, h2⟩ := h
  exact ⟨fun pins s σ H Q I ⟨G, ds, DQ, R, q, k⟩ => h1.run pins s σ H Q I (h2 G ds σ H DQ Q R q k)⟩
def tOfG (K : PySem.W.Frag) (sl : List Nat) (g : DG) : TG := fun v σ H Q => ∃ (G : Hp) (ds : DS) (d : D) (DQ : DS → Prop), Rel K G ds σ H ∧ Dp K G v d ∧ g d ds DQ ∧ ∀ ds' σ', DQ ds' → Rel K G ds' σ' H → Ext ds σ G H ds' σ' G H → Off sl σ σ' → Q σ' H
theorem PVG.pe {X : Cx} {sl : List Nat} {e : Expr} {g : DG} (h : PVG X sl e g) : PG X e (tOfG X.K sl g) := by
  obtain ⟨t, h1, h2⟩ := h
  exact ⟨fun pins s σ H v u Q I rv ⟨G, ds, d, DQ, R, p, q, k⟩ => h1.run pins s σ H v u Q I rv (h2 G ds σ H v d DQ Q R p q k)⟩
/-! ### the names of a block are hidden, then back -/
def wipD (ds : DS) : List Nat → DS
  | [] => ds
  | v :: vs => (wipD ds vs).set v .no
def rstD (ds0 : DS) : List Nat → DS → DS
  | [], ds => ds
  | v :: vs, ds => (rstD ds0 vs ds).set v ((ds0[v]?).getD .no)
theorem wipD_len (ds : DS) : ∀ vs, (wipD ds vs).length = ds.length
  | [] => rfl
  | v :: vs => by rw [wipD, List.length_set, wipD_len ds vs]
theorem rstD_len (ds0 : DS) : ∀ vs ds, (rstD ds0 vs ds).length = ds.length
  | [], _ => rfl
  | v :: vs, ds => by rw [rstD, List.length_set, rstD_len ds0 vs ds]
theorem wipD_get {ds : DS} {i : Nat} {s : Sl} : ∀ {vs : List Nat}, (wipD ds vs)[i]? = some s → s = .no ∨ (i ∉ vs ∧ ds[i]? = some s)
  | [], h => .inr ⟨by simp, h⟩
  | v :: vs, h => by
    unfold wipD at h
    by_cases e : v = i
    · subst e
      rw [List.getElem?_set] at h
      rw [if_pos rfl] at h
      split at h
      · cases h; exact .inl rfl
      · cases h
    · rw [List.getElem?_set_ne e] at h
      rcases wipD_get h with q | ⟨q1, q2⟩
      · exact .inl q
      · exact .inr ⟨by simp only [List.mem_cons, not_or]; exact ⟨fun z => e z.symm, q1⟩, q2⟩
theorem rstD_get {ds0 ds : DS} {i : Nat} {s : Sl} : ∀ {vs : List Nat}, (rstD ds0 vs ds)[i]? = some s → (i ∈ vs ∧ (s = .no ∨ ds0[i]? = some s)) ∨ (i ∉ vs ∧ ds[i]? = some s)
  | [], h => .inr ⟨by simp, h⟩
  | v :: vs, h => by
    unfold rstD at h
    by_cases e : v = i
    · subst e
      rw [List.getElem?_set] at h
      rw [if_pos rfl] at h
      split at h
      · cases q : ds0[v]? with
        | none => rw [q] at h; cases h; exact .inl ⟨List.mem_cons_self, .inl rfl⟩
        | some t => rw [q] at h; cases h; exact .inl ⟨List.mem_cons_self, .inr rfl⟩
      · cases h
    · rw [List.getElem?_set_ne e] at h
      rcases rstD_get h with ⟨q1, q2⟩ | ⟨q1, q2⟩
      · exact .inl ⟨List.mem_cons_of_mem _ q1, q2⟩
      · exact .inr ⟨by simp only [List.mem_cons, not_or]; exact ⟨fun z => e z.symm, q1⟩, q2⟩
theorem wipe_off {σ : St} {i : Nat} : ∀ {vs : List Nat}, i ∉ vs → (wipe σ vs)[i]? = σ[i]?
  | [], _ => rfl
  | v :: vs, h => by
    simp only [List.mem_cons, not_or] at h
    unfold wipe
    rw [List.getElem?_set_ne (fun z => h.1 z.symm)]
    exact wipe_off h.2
theorem owAt_wip {ds : DS} {σ : St} {vs : List Nat} {i : Nat} {a : Addr} (h : OwAt (wipD ds vs) (wipe σ vs) i a) : i ∉ vs ∧ OwAt ds σ i a := by
  obtain ⟨⟨d, e⟩, s⟩ := h
  rcases wipD_get e with q | ⟨q1, q2⟩
  · cases q
  · rw [wipe_off q1] at s
    exact ⟨q1, ⟨d, q2⟩, s⟩
theorem Rel.wip {K : PySem.W.Frag} {G : Hp} {ds : DS} {σ : St} {H : Hp} (R : Rel K G ds σ H) (vs : List Nat) : Rel K G (wipD ds vs) (wipe σ vs) H := by
  refine ⟨R.sub, by rw [wipD_len, wipe_length]; exact R.len, fun i d e => ?_, fun i d e => ?_, fun i j a p q => R.ap i j a (owAt_wip p).2 (owAt_wip q).2⟩
  · rcases wipD_get e with q | ⟨q1, q2⟩
    · cases q
    · rw [wipe_off q1]; exact R.fz i d q2
  · rcases wipD_get e with q | ⟨q1, q2⟩
    · cases q
    · rw [wipe_off q1]; exact R.ow i d q2
theorem Rel.rst {K : PySem.W.Frag} {G : Hp} {ds : DS} {σ : St} {H : Hp} {vs : List Nat} {G3 : Hp} {ds3 : DS} {σ2 : St} {H3 : Hp} (R : Rel K G ds σ H) (R3 : Rel K G3 ds3 σ2 H3) (x : Ext (wipD ds vs) (wipe σ vs) G H ds3 σ2 G3 H3) (o : Off vs (wipe σ vs) σ2) :
    Rel K G3 (rstD ds vs ds3) σ H3 ∧ Ext ds σ G H (rstD ds vs ds3) σ G3 H3 := by
  have ws : ∀ i, i ∉ vs → σ2[i]? = σ[i]? := fun i h => (o.2 i h).trans (wipe_off h)
  have own : ∀ {i : Nat} {a : Addr}, OwAt (rstD ds vs ds3) σ i a → (i ∈ vs ∧ OwAt ds σ i a) ∨ (i ∉ vs ∧ OwAt ds3 σ2 i a) := fun {i a} ⟨⟨d, e⟩, s⟩ => by
    rcases rstD_get e with ⟨q1, q2⟩ | ⟨q1, q2⟩
    · rcases q2 with q2 | q2
      · cases q2
      · exact .inl ⟨q1, ⟨d, q2⟩, s⟩
    · exact .inr ⟨q1, ⟨d, q2⟩, by rw [ws i q1]; exact s⟩
  -- a hidden list of one's own is not touched
  have hid : ∀ {i : Nat} {a : Addr}, i ∈ vs → OwAt ds σ i a → ¬ Owns (wipD ds vs) (wipe σ vs) a := fun {i a} hi q ⟨j, z⟩ => by
    obtain ⟨z1, z2⟩ := owAt_wip z
    have := R.ap i j a q z2
    subst this
    exact z1 hi
  refine ⟨⟨R3.sub, by rw [rstD_len, R3.len, o.1, wipe_length], fun i d e => ?_, fun i d e => ?_, fun i j a p q => ?_⟩, ⟨x.gg, fun b u h n => x.fr b u h fun ⟨j, z⟩ => n ⟨j, (owAt_wip z).2⟩, fun b u h n => ?_, fun b ⟨i, z⟩ => ?_⟩⟩
  · rcases rstD_get e with ⟨q1, q2⟩ | ⟨q1, q2⟩
    · rcases q2 with q2 | q2
      · cases q2
      · obtain ⟨v, h1, h2⟩ := R.fz i d q2
        exact ⟨v, h1, Dp.mo x.gg _ _ h2⟩
    · obtain ⟨v, h1, h2⟩ := R3.fz i d q2
      exact ⟨v, by rw [← ws i q1]; exact h1, h2⟩
  · rcases rstD_get e with ⟨q1, q2⟩ | ⟨q1, q2⟩
    · rcases q2 with q2 | q2
      · cases q2
      · obtain ⟨a, u, h1, h2, h3, h4⟩ := R.ow i d q2
        have nO := hid q1 ⟨⟨d, q2⟩, h1⟩
        refine ⟨a, u, h1, ?_, x.fr a u h3 nO, Own.mo x.gg h4⟩
        cases e : G3 a with
        | none => rfl
        | some w =>
          rcases x.nw a w e h2 with z | z
          · rw [h3] at z; cases z
          · exact absurd z nO
    · obtain ⟨a, u, h1, h2, h3, h4⟩ := R3.ow i d q2
      exact ⟨a, u, by rw [← ws i q1]; exact h1, h2, h3, h4⟩
  · have mix : ∀ {i j : Nat}, i ∈ vs → OwAt ds σ i a → OwAt ds3 σ2 j a → False := fun {i j} hi p q => by
      rcases x.ow a ⟨j, q⟩ with z | z
      · exact hid hi p z
      · obtain ⟨_, u, h⟩ := R.owNe ⟨i, p⟩
        rw [h] at z; cases z
    rcases own p with ⟨p1, p2⟩ | ⟨p1, p2⟩
    · rcases own q with ⟨q1, q2⟩ | ⟨q1, q2⟩
      · exact R.ap i j a p2 q2
      · exact (mix p1 p2 q2).elim
    · rcases own q with ⟨q1, q2⟩ | ⟨q1, q2⟩
      · exact (mix q1 q2 p2).elim
      · exact R3.ap i j a p2 q2
  · rcases x.nw b u h n with z | ⟨j, z⟩
    · exact .inl z
    · exact .inr ⟨j, (owAt_wip z).2⟩
  · rcases own z with ⟨_, z⟩ | ⟨_, z⟩
    · exact .inl ⟨i, z⟩
    · rcases x.ow b ⟨i, z⟩ with ⟨j, w⟩ | w
      · exact .inl ⟨j, (owAt_wip w).2⟩
      · exact .inr w
/-- a thing that is nobody's may change -/
theorem Rel.updN {K : PySem.W.Frag} {G : Hp} {ds : DS} {σ : St} {H : Hp} (R : Rel K G ds σ H) {p : Addr} {o : HO} (n : G p = none) (no : ¬ Owns ds σ p) : Rel K G ds σ (upd H p o) where
  sub := fun b u h => by rw [upd_ne (fun z => by rw [z, n] at h; cases h)]; exact R.sub b u h
  len := R.len
  fz := R.fz
  ow := fun i d h => by
    obtain ⟨a, o', h1, h2, h3, h4⟩ := R.ow i d h
    exact ⟨a, o', h1, h2, by rw [upd_ne (fun z => no ⟨i, ⟨d, h⟩, by rw [← z]; exact h1⟩)]; exact h3, h4⟩
  ap := R.ap
/-! ### comprehensions -/
def lcGo (ok : DS → Prop → Prop) (vs : List Nat) (g : DG) (tt : DT) (te : DF) : List D → List D → DS → (List D → DS → Prop) → Prop
  | [], acc, ds, Q => ok ds (Q acc ds)
  | x :: xs, acc, ds, Q => ok ds (g x (wipD ds vs) fun ds1 => tt ds1 fun b ds2 => br b (te ds2 fun d ds3 => acc.length < 16777216 ∧ lcGo ok vs g tt te xs (acc ++ [d]) (rstD ds vs ds3) Q)
      (lcGo ok vs g tt te xs acc (rstD ds vs ds2) Q))
def eLc (it : DI) (vs : List Nat) (g : DG) (tt : DT) (te : DF) : DE := fun ds Q => it ds fun i ds1 => lcGo (guard i.sl i.xs) vs g tt te i.xs [] ds1 fun acc ds2 => Q (.fresh (.list acc)) ds2
theorem wipe_of_off {vs : List Nat} {σ σ2 : St} (o : Off vs (wipe σ vs) σ2) : wipe σ2 vs = wipe σ vs := by
  have look : ∀ (τ : St) (ws : List Nat) (i : Nat), i ∈ ws → (wipe τ ws)[i]? = if i < τ.length then some none else none := by
    intro τ ws
    induction ws with
    | nil => intro i h; cases h
    | cons v ws ih =>
      intro i h
      unfold wipe
      by_cases e : v = i
      · subst e
        rw [List.getElem?_set, if_pos rfl, wipe_length]
      · rw [List.getElem?_set_ne e]
        rcases List.mem_cons.mp h with h | h
        · exact absurd h.symm e
        · exact ih i h
  apply List.ext_getElem?
  intro i
  by_cases h : i ∈ vs
  · rw [look σ2 vs i h, look σ vs i h, o.1, wipe_length]
  · rw [wipe_off h, o.2 i h]
theorem lc_run {X : Cx} {pn : List Nat} {tg iter : Expr} {it : DI} {vs sl : List Nat} {g : DG} {tt : DT} {te : DF} (hi : PVI X pn tg iter it) (hsl : ∀ i ∈ sl, i ∈ vs) : ∃ wi, PI X tg iter wi ∧ ∀ (G : Hp) (ds : DS) (σ : St) (H : Hp) (DQ : Ev → DS → Prop) (Q : VK), Rel X.K G ds σ H → eLc it vs g tt te ds DQ →
    (∀ ev ds' v G' H', DQ ev ds' → Rel X.K G' ds' σ H' → Ext ds σ G H ds' σ G' H' → EvR X.K G' ds' σ H' v ev → FrN ds σ H v ev → Q v H') → tLc wi (tOfG X.K sl g) (tOfT X.K tt) (tOf X.K te) vs σ H Q := by
  have zl : sizeLine = 16777216 := sizeLine_eq
  obtain ⟨wi, i1, i2⟩ := hi
  refine ⟨wi, i1, fun G ds σ H DQ Q R q k => i2 G ds σ H _ _ R q fun i ds1 J G1 H1 q1 R1 x1 io D hD => ?_⟩
  have nD1 := R1.nOwn hD
  have gD1 := R1.gnone hD
  refine ⟨fun n m Hk => m = i.xs.length - n ∧ n ≤ i.xs.length ∧ ∃ dk Gk acc av, Rel X.K Gk dk σ Hk ∧ Ext ds1 σ G1 H1 dk σ Gk Hk ∧ Hk D = some (.lst av) ∧ DpAll X.K Gk av acc ∧ Gk D = none ∧ ¬ Owns dk σ D ∧ lcGo (guard i.sl i.xs) vs g tt te (i.xs.drop n) acc dk fun acc ds2 => DQ (.fresh (.list acc)) ds2,
    ⟨i.xs.length, by simp, Nat.zero_le _, ds1, G1, [], [], R1.updO hD, Ext.updO hD, upd_same, .nil, gD1, nD1, by simpa using q1⟩, ?_⟩
  rintro n m Hk ⟨rfl, hn, dk, Gk, acc, av, Rk, xk, eD, pa, gD, nD, qk⟩
  by_cases hlt : n < i.xs.length
  · obtain ⟨d, hd⟩ : ∃ d, i.xs[n]? = some d := ⟨_, List.getElem?_eq_getElem hlt⟩
    have ed : i.xs.drop n = d :: i.xs.drop (n + 1) := by
      rw [List.drop_eq_getElem_cons hlt]
      rw [List.getElem?_eq_getElem hlt] at hd
      cases hd; rfl
    rw [ed] at qk
    obtain ⟨ok, qk⟩ := guard_e qk
    obtain ⟨_, io2⟩ := io Gk dk σ Hk Rk xk.gg (Pin.refl _ _) ok
    obtain ⟨go, yl⟩ := io2 n d hd
    refine .inr ⟨go, fun H' => ∃ m', m' < i.xs.length - n ∧ (m' = i.xs.length - (n + 1) ∧ n + 1 ≤ i.xs.length ∧ ∃ dk Gk acc av, Rel X.K Gk dk σ H' ∧ Ext ds1 σ G1 H1 dk σ Gk H' ∧ H' D = some (.lst av) ∧ DpAll X.K Gk av acc ∧ Gk D = none ∧ ¬ Owns dk σ D ∧ lcGo (guard i.sl i.xs) vs g tt te (i.xs.drop (n + 1)) acc dk fun acc ds2 => DQ (.fresh (.list acc)) ds2), fun H' h => h, fun v H' y => ?_⟩
    obtain ⟨G2, R2, x2, p2⟩ := yl v H' y
    have keep : ∀ {G3 : Hp} {ds3 : DS} {H3 : Hp}, Ext dk σ Gk Hk ds3 σ G3 H3 → H3 D = some (.lst av) ∧ DpAll X.K G3 av acc ∧ G3 D = none ∧ ¬ Owns ds3 σ D := fun {G3 ds3 H3} x => by
      refine ⟨x.fr D _ eD nD, DpAll.mo x.gg _ _ pa, ?_, fun z => ?_⟩
      · cases e : G3 D with
        | none => rfl
        | some u =>
          rcases x.nw D u e gD with z | z
          · rw [eD] at z; cases z
          · exact absurd z nD
      · rcases x.ow D z with z | z
        · exact nD z
        · rw [eD] at z; cases z
    refine ⟨G2, wipD dk vs, d, _, R2.wip vs, p2, qk, fun ds3 σ3 q3 R3 x3 o3 => ?_⟩
    have o3' : Off vs (wipe σ vs) σ3 := ⟨o3.1, fun j hj => o3.2 j fun z => hj (hsl j z)⟩
    refine ⟨wipe_of_off o3', G2, ds3, _, R3, q3, fun b ds4 G4 H4 q4 R4 x4 => ?_⟩
    have x34 := x3.trans x4
    cases b with
    | true =>
      refine iteT ?_
      refine ⟨G4, ds4, _, R4, q4, fun y ds5 v5 G5 H5 q5 R5 x5 p5 => ?_⟩
      obtain ⟨R6, x6⟩ := Rel.rst R2 R5 (x34.trans x5) o3'
      have x7 := x2.trans x6
      obtain ⟨k1, k2, k3, k4⟩ := keep x7
      refine ⟨av, k1, by rw [pa.len]; omega, i.xs.length - (n + 1), by omega, rfl, hlt, rstD dk vs ds5, G5, acc ++ [y], av ++ [v5], R6.updN k3 k4, ?_, upd_same, k2.app (.cons p5 .nil), k3, k4, q5.2⟩
      have x8 := xk.trans x7
      exact ⟨x8.gg, fun b o h nn => by rw [upd_ne (fun z => by rw [z, hD] at h; cases h)]; exact x8.fr b o h nn, x8.nw, x8.ow⟩
    | false =>
      refine iteF ?_
      obtain ⟨R6, x6⟩ := Rel.rst R2 R4 x34 o3'
      have x7 := x2.trans x6
      obtain ⟨k1, k2, k3, k4⟩ := keep x7
      exact ⟨i.xs.length - (n + 1), by omega, rfl, hlt, rstD dk vs ds4, G4, acc, av, R6, xk.trans x7, k1, k2, k3, k4, q4⟩
  · have ek : n = i.xs.length := by omega
    subst ek
    rw [List.drop_length] at qk
    obtain ⟨ok, qk⟩ := guard_e qk
    obtain ⟨st, _⟩ := io Gk dk σ Hk Rk xk.gg (Pin.refl _ _) ok
    refine .inl ⟨st, k _ _ _ _ _ qk Rk (x1.trans xk) ⟨D, _, rfl, gD, eD, pa, nD⟩ fun a e => ?_⟩
    cases e
    exact x1.nn hD
section
variable {X : Cx} {pos : Pos}
def subN (sl vs : List Nat) : Bool := sl.all fun i => decide (i ∈ vs)
theorem subN_e {sl vs : List Nat} (h : subN sl vs = true) : ∀ i ∈ sl, i ∈ vs := fun i hi => of_decide_eq_true (List.all_eq_true.mp h i hi)
theorem pve_lc {pn : List Nat} {elt tg iter : Expr} {ifs : List Expr} {scope : Scope} {own : List (Str × Nat)} {sl : List Nat} {it : DI} {g : DG} {tt : DT} {te : DE} (hc : X.calm = true) (hN : X.N.Nodup) (hi : PVI X pn tg iter it) (ok : blkC X.N X.env.scope scope own = true) (hsl : subN sl (own.map (·.2)) = true)
    (hg : ∀ (s : Shared) (H : Hp) (C : Addr) (cl : List (Str × Addr)) (fp : List Addr), PVG (X.blk s H scope (compEnvC scope cl C X.env) fp) sl tg g) (ht : ∀ (s : Shared) (H : Hp) (C : Addr) (cl : List (Str × Addr)) (fp : List Addr), PVTs (X.blk s H scope (compEnvC scope cl C X.env) fp) ifs tt)
    (he : ∀ (s : Shared) (H : Hp) (C : Addr) (cl : List (Str × Addr)) (fp : List Addr), PVE (X.blk s H scope (compEnvC scope cl C X.env) fp) elt te) (hs : ∀ x, foldedSetIterable iter X.env x = pure x := by intro _; rfl) :
    PVE X (.ListComp elt [⟨tg, iter, ifs, 0⟩] scope pos) (eLc it (own.map (·.2)) g tt (eFz te)) := by
  obtain ⟨wi, i1, i2⟩ := lc_run (g := g) (tt := tt) (te := eFz te) (vs := own.map (·.2)) hi (subN_e hsl)
  exact ⟨_, pe_lc hc hN i1 (blkOk_by ok) (fun s H C cl fp => (hg s H C cl fp).pe) (fun s H C cl fp => (ht s H C cl fp).pe) (fun s H C cl fp => (he s H C cl fp).fz.pe) hs, i2⟩
theorem pvs_setLc {pn pn' : List Nat} {i : Nat} {y : Str} {py spos : Pos} {elt tg iter : Expr} {ifs : List Expr} {scope : Scope} {own : List (Str × Nat)} {sl : List Nat} {it : DI} {g : DG} {tt : DT} {te : DE} (hc : X.calm = true) (hN : X.N.Nodup) (hy : X.N[i]? = some y) (hyl : X.env.scope.names.lookup y = some .local)
    (hsw : swapsWith (.ListComp elt [⟨tg, iter, ifs, 0⟩] scope pos) (some (.Name y py)) spos.line X.env = pure true) (hin : i ∉ pn') (hi : PVI X pn tg iter it) (ok : blkC X.N X.env.scope scope own = true) (hsl : subN sl (own.map (·.2)) = true)
    (hg : ∀ (s : Shared) (H : Hp) (C : Addr) (cl : List (Str × Addr)) (fp : List Addr), PVG (X.blk s H scope (compEnvC scope cl C X.env) fp) sl tg g) (ht : ∀ (s : Shared) (H : Hp) (C : Addr) (cl : List (Str × Addr)) (fp : List Addr), PVTs (X.blk s H scope (compEnvC scope cl C X.env) fp) ifs tt)
    (he : ∀ (s : Shared) (H : Hp) (C : Addr) (cl : List (Str × Addr)) (fp : List Addr), PVE (X.blk s H scope (compEnvC scope cl C X.env) fp) elt te) (hs : ∀ x, foldedSetIterable iter X.env x = pure x := by intro _; rfl) :
    PVS X pn' (.Assign [.Name y py] (.ListComp elt [⟨tg, iter, ifs, 0⟩] scope pos) spos) (sSet i (eLc it (own.map (·.2)) g tt (eFz te))) := by
  obtain ⟨wi, i1, i2⟩ := lc_run (g := g) (tt := tt) (te := eFz te) (vs := own.map (·.2)) hi (subN_e hsl)
  exact ⟨_, ps_setLc hc hN hy hyl hsw i1 (blkOk_by ok) (fun s H C cl fp => (hg s H C cl fp).pe) (fun s H C cl fp => (ht s H C cl fp).pe) (fun s H C cl fp => (he s H C cl fp).fz.pe) hs,
    fun G ds σ H E D R q L => i2 G ds σ H _ _ R q fun ev ds1 v G1 H1 q1 R1 x1 r1 n1 => stv_ok L hin q1 R1 x1 r1 n1⟩
end

/-! ### a def's body keeps its contract -/
def okA : List Sl → List Bool → Prop
  | [], [] => True
  | .ow _ :: as, b :: bs => b = true ∧ okA as bs
  | .fz _ :: as, _ :: bs => okA as bs
  | .no :: as, _ :: bs => okA as bs
  | _, _ => False
def okAP : List Sl → List Bool → Prop → Prop
  | [], [], P => P
  | .ow _ :: as, true :: bs, P => okAP as bs P
  | .fz _ :: as, _ :: bs, P => okAP as bs P
  | .no :: as, _ :: bs, P => okAP as bs P
  | _, _, _ => False
theorem okAP_e : ∀ {as : List Sl} {bs : List Bool} {P : Prop}, okAP as bs P → okA as bs ∧ P
  | [], [], _, h => ⟨trivial, h⟩
  | [], _ :: _, _, h => h.elim
  | .ow _ :: as, true :: bs, _, h => ⟨⟨rfl, (okAP_e (as := as) h).1⟩, (okAP_e (as := as) h).2⟩
  | .ow _ :: as, false :: bs, _, h => h.elim
  | .fz _ :: as, b :: bs, _, h => okAP_e (as := as) (bs := bs) h
  | .no :: as, b :: bs, _, h => okAP_e (as := as) (bs := bs) h
  | .ow _ :: _, [], _, h => h.elim
  | .fz _ :: _, [], _, h => h.elim
  | .no :: _, [], _, h => h.elim
def backA : List Sl → DS → List Sl
  | [], _ => []
  | .ow _ :: as, s :: ds => s :: backA as ds
  | .ow _ :: as, [] => .no :: backA as []
  | .fz d :: as, _ :: ds => .fz d :: backA as ds
  | .fz d :: as, [] => .fz d :: backA as []
  | .no :: as, _ :: ds => .no :: backA as ds
  | .no :: as, [] => .no :: backA as []
def retOk (e : Ev) (Q : Prop) : Prop := match e with
  | .at_ _ => False
  | .val _ => Q
  | .fresh _ => Q
def runF (bs : List Bool) (m : Nat) (body : DSt) : DSp := fun as Q => okAP as bs <| body { nx := fun ds => Q (.val .none) (backA as ds), rt := fun ev ds => retOk ev (Q ev (backA as ds)) } (as ++ List.replicate m .no)
/-- the places of the parameters that may be lent -/
def pnOf : Nat → List Bool → List Nat
  | _, [] => []
  | k, true :: bs => k :: pnOf (k + 1) bs
  | k, false :: bs => pnOf (k + 1) bs
theorem pnOf_mem : ∀ {bs : List Bool} {k i : Nat}, bs[i]? = some true → k + i ∈ pnOf k bs
  | [], _, _, h => by simp at h
  | b :: bs, k, 0, h => by simp at h; subst h; exact List.mem_cons_self
  | b :: bs, k, i + 1, h => by
    have := pnOf_mem (bs := bs) (k := k + 1) (i := i) (by simpa using h)
    have e : k + 1 + i = k + (i + 1) := by omega
    rw [e] at this
    cases b with
    | true => exact List.mem_cons_of_mem _ this
    | false => exact this
theorem okA_len : ∀ {as : List Sl} {bs : List Bool}, okA as bs → as.length = bs.length
  | [], [], _ => rfl
  | [], _ :: _, h => h.elim
  | .ow _ :: as, b :: bs, h => congrArg (· + 1) (okA_len h.2)
  | .fz _ :: as, b :: bs, h => congrArg (· + 1) (okA_len (as := as) (bs := bs) h)
  | .no :: as, b :: bs, h => congrArg (· + 1) (okA_len (as := as) (bs := bs) h)
  | .ow _ :: _, [], h => h.elim
  | .fz _ :: _, [], h => h.elim
  | .no :: _, [], h => h.elim
theorem okA_ow : ∀ {as : List Sl} {bs : List Bool} {i : Nat} {d : D}, okA as bs → as[i]? = some (.ow d) → bs[i]? = some true
  | [], _, _, _, _, h => by simp at h
  | _ :: _, [], _, _, h, _ => by
    exfalso
    rename_i a as i d h'
    cases a <;> exact h
  | .ow _ :: as, b :: bs, 0, d, h, _ => by simp [h.1]
  | .fz _ :: as, b :: bs, 0, d, h, e => by simp at e
  | .no :: as, b :: bs, 0, d, h, e => by simp at e
  | .ow _ :: as, b :: bs, i + 1, d, h, e => by simpa using okA_ow (as := as) h.2 (by simpa using e)
  | .fz _ :: as, b :: bs, i + 1, d, h, e => by simpa using okA_ow (as := as) (bs := bs) h (by simpa using e)
  | .no :: as, b :: bs, i + 1, d, h, e => by simpa using okA_ow (as := as) (bs := bs) h (by simpa using e)
theorem backA_len : ∀ (as : List Sl) (ds : DS), (backA as ds).length = as.length
  | [], ds => by unfold backA; rfl
  | .ow _ :: as, [] => congrArg (· + 1) (backA_len as [])
  | .fz _ :: as, [] => congrArg (· + 1) (backA_len as [])
  | .no :: as, [] => congrArg (· + 1) (backA_len as [])
  | .ow _ :: as, s :: ds => congrArg (· + 1) (backA_len as ds)
  | .fz _ :: as, s :: ds => congrArg (· + 1) (backA_len as ds)
  | .no :: as, s :: ds => congrArg (· + 1) (backA_len as ds)
theorem backA_get : ∀ {as : List Sl} {ds : DS} {i : Nat} {s : Sl}, (backA as ds)[i]? = some s → (∃ d, as[i]? = some (.ow d) ∧ (ds[i]? = some s ∨ s = .no)) ∨ (as[i]? = some s ∧ ∀ d, s ≠ .ow d)
  | [], ds, i, s, h => by unfold backA at h; simp at h
  | .ow d :: as, [], 0, s, h => by simp [backA] at h; subst h; exact .inl ⟨d, rfl, .inr rfl⟩
  | .fz d :: as, [], 0, s, h => by simp [backA] at h; subst h; exact .inr ⟨rfl, fun _ z => nomatch z⟩
  | .no :: as, [], 0, s, h => by simp [backA] at h; subst h; exact .inr ⟨rfl, fun _ z => nomatch z⟩
  | .ow d :: as, [], i + 1, s, h => by simpa using backA_get (as := as) (ds := []) (i := i) (by simpa [backA] using h)
  | .fz d :: as, [], i + 1, s, h => by simpa using backA_get (as := as) (ds := []) (i := i) (by simpa [backA] using h)
  | .no :: as, [], i + 1, s, h => by simpa using backA_get (as := as) (ds := []) (i := i) (by simpa [backA] using h)
  | .ow d :: as, t :: ds, 0, s, h => by simp [backA] at h; subst h; exact .inl ⟨d, rfl, .inl rfl⟩
  | .fz d :: as, t :: ds, 0, s, h => by simp [backA] at h; subst h; exact .inr ⟨rfl, fun _ z => nomatch z⟩
  | .no :: as, t :: ds, 0, s, h => by simp [backA] at h; subst h; exact .inr ⟨rfl, fun _ z => nomatch z⟩
  | .ow d :: as, t :: ds, i + 1, s, h => by simpa using backA_get (as := as) (ds := ds) (i := i) (by simpa [backA] using h)
  | .fz d :: as, t :: ds, i + 1, s, h => by simpa using backA_get (as := as) (ds := ds) (i := i) (by simpa [backA] using h)
  | .no :: as, t :: ds, i + 1, s, h => by simpa using backA_get (as := as) (ds := ds) (i := i) (by simpa [backA] using h)
/-- the slots at a def's entry -/
theorem start_rel {K : PySem.W.Frag} {G : Hp} {as : List Sl} {vs : List V} {H : Hp} {N : List Str} {m : Nat} (R : Rel K G as (vs.map some) H) (hN : N.length = vs.length + m) : Rel K G (as ++ List.replicate m .no) (L2.start N vs) H ∧ Ext as (vs.map some) G H (as ++ List.replicate m .no) (L2.start N vs) G H := by
  have la : as.length = vs.length := by rw [R.len, List.length_map]
  have e : N.length - vs.length = m := by omega
  have st : L2.start N vs = vs.map some ++ List.replicate m none := by unfold L2.start; rw [e]
  have gl : ∀ {i : Nat} {s : Sl}, (as ++ List.replicate m Sl.no)[i]? = some s → s = .no ∨ (i < as.length ∧ as[i]? = some s) := fun {i s} h => by
    by_cases hi : i < as.length
    · rw [List.getElem?_append_left hi] at h; exact .inr ⟨hi, h⟩
    · rw [List.getElem?_append_right (by omega), List.getElem?_replicate] at h
      split at h
      · cases h; exact .inl rfl
      · cases h
  have sl : ∀ {i : Nat}, i < as.length → (L2.start N vs)[i]? = (vs.map some)[i]? := fun {i} hi => by
    rw [st, List.getElem?_append_left (by rw [List.length_map]; omega)]
  have own : ∀ {i : Nat} {a : Addr}, OwAt (as ++ List.replicate m .no) (L2.start N vs) i a → OwAt as (vs.map some) i a := fun {i a} ⟨⟨d, e⟩, s⟩ => by
    rcases gl e with q | ⟨q1, q2⟩
    · cases q
    · rw [sl q1] at s; exact ⟨⟨d, q2⟩, s⟩
  refine ⟨⟨R.sub, by rw [st]; simp [la], fun i d h => ?_, fun i d h => ?_, fun i j a p q => R.ap i j a (own p) (own q)⟩, ⟨Same.refl G, fun _ _ h _ => h, fun b o h n => (by rw [n] at h; cases h), fun b ⟨i, z⟩ => .inl ⟨i, own z⟩⟩⟩
  · rcases gl h with q | ⟨q1, q2⟩
    · cases q
    · rw [sl q1]; exact R.fz i d q2
  · rcases gl h with q | ⟨q1, q2⟩
    · cases q
    · rw [sl q1]; exact R.ow i d q2
/-- what is handed back -/
theorem back_rel {K : PySem.W.Frag} {G0 : Hp} {as : List Sl} {vs : List V} {H0 : Hp} {N : List Str} {m : Nat} {bs : List Bool} (R0 : Rel K G0 as (vs.map some) H0) (hN : N.length = vs.length + m) (ho : okA as bs) {G : Hp} {ds : DS} {σ : St} {H : Hp} (R : Rel K G ds σ H)
    (x : Ext as (vs.map some) G0 H0 ds σ G H) (p : Pin (pnOf 0 bs) (L2.start N vs) σ) : Rel K G (backA as ds) (vs.map some) H ∧ Ext as (vs.map some) G0 H0 (backA as ds) (vs.map some) G H ∧ ∀ a, Owns (backA as ds) (vs.map some) a → Owns ds σ a := by
  have la : as.length = vs.length := by rw [R0.len, List.length_map]
  have e : N.length - vs.length = m := by omega
  have st : L2.start N vs = vs.map some ++ List.replicate m none := by unfold L2.start; rw [e]
  have at_s : ∀ {i : Nat} {d : D}, as[i]? = some (.ow d) → σ[i]? = (vs.map some)[i]? := fun {i d} h => by
    have hi : i < as.length := (List.getElem?_eq_some_iff.mp h).1
    have := p (0 + i) (pnOf_mem (okA_ow ho h))
    rw [Nat.zero_add] at this
    rw [this, st, List.getElem?_append_left (by rw [List.length_map]; omega)]
  have own : ∀ {i : Nat} {a : Addr}, OwAt (backA as ds) (vs.map some) i a → OwAt ds σ i a := fun {i a} ⟨⟨d, e⟩, s⟩ => by
    rcases backA_get e with ⟨d', h1, h2 | h2⟩ | ⟨h1, h2⟩
    · exact ⟨⟨d, h2⟩, by rw [at_s h1]; exact s⟩
    · cases h2
    · exact absurd rfl (h2 d)
  refine ⟨⟨R.sub, by rw [backA_len]; exact R0.len, fun i d e => ?_, fun i d e => ?_, fun i j a p q => R.ap i j a (own p) (own q)⟩, ⟨x.gg, x.fr, x.nw, fun b ⟨i, z⟩ => x.ow b ⟨i, own z⟩⟩, fun a ⟨i, z⟩ => ⟨i, own z⟩⟩
  · rcases backA_get e with ⟨d', h1, h2 | h2⟩ | ⟨h1, h2⟩
    · obtain ⟨v, g1, g2⟩ := R.fz i d h2
      exact ⟨v, by rw [← at_s h1]; exact g1, g2⟩
    · cases h2
    · obtain ⟨v, g1, g2⟩ := R0.fz i d h1
      exact ⟨v, g1, Dp.mo x.gg _ _ g2⟩
  · rcases backA_get e with ⟨d', h1, h2 | h2⟩ | ⟨h1, h2⟩
    · obtain ⟨a, o, g1, g2⟩ := R.ow i d h2
      exact ⟨a, o, by rw [← at_s h1]; exact g1, g2⟩
    · cases h2
    · exact absurd rfl (h2 d)
section
variable {P : Program} {w : World} {K : PySem.W.Frag} {mg : Str → Option Value} {base : Heap}
/-- the context of a def's body -/
abbrev cxB (P : Program) (w : World) (K : PySem.W.Frag) (mg : Str → Option Value) (base : Heap) (N : List Str) (qual : Str) (st : Stmt) (f : Addr) (cdv : Value) (A : Around) (outer : List Env) (s : Shared) (H : Hp) (E : XK) : Cx := (cxOf CX0 P w K mg base N qual (defScope st) f cdv A outer s H E).nox
theorem def_ok {x qual : Str} {st : Stmt} {f : Addr} {fd : FuncData} {N ps : List Str} {k m : Nat} {bs : List Bool} {body : DSt} (F : Fun K x qual st f fd) (S : FnScope N ps (defScope st)) (hb : bs.length = ps.length) (hN : N.length = ps.length + m)
    (h : ∀ (cdv : Value) (A : Around) (outer : List Env) (s : Shared) (H : Hp) (E : XK), Room k (cxB P w K mg base N qual st f cdv A outer s H E).A → PVB (cxB P w K mg base N qual st f cdv A outer s H E) (pnOf 0 bs) (defBody st) body) :
    FnOk P w K mg base CX0 (k + 1) f fd ps (spD K bs.length (runF bs m body)) := by
  refine F.ok S (fun vs H Q E h => ?_) (fun cdv A outer s H vs Q E hr hs => ?_)
  · obtain ⟨G, as, DQ, hn, R, _⟩ := h
    have := R.len
    rw [List.length_map] at this
    omega
  · obtain ⟨G, as, DQ, hn, R, q, kk⟩ := hs
    obtain ⟨ho, q⟩ := okAP_e q
    have lv : vs.length = ps.length := by
      have := R.len
      rw [List.length_map] at this
      omega
    have hN' : N.length = vs.length + m := by omega
    obtain ⟨t, h1, h2⟩ := h cdv A outer s H E hr
    obtain ⟨R1, x1⟩ := start_rel R hN'
    refine ⟨t, h1, h2 G (as ++ List.replicate m Sl.no) (L2.start N vs) H { nx := fun ds => DQ (.val .none) (backA as ds), rt := fun ev ds => retOk ev (DQ ev (backA as ds)) } { nx := fun _ H' => Q .non H', rt := Q } R1 q ⟨fun ds' σ' G' H' q' R' x' p' => ?_, fun ev ds' σ' v G' H' q' R' x' p' r' n' => ?_, fun _ _ _ _ q' _ _ _ => q'.elim, fun _ _ _ _ q' _ _ _ => q'.elim⟩⟩
    · obtain ⟨R2, x2, o2⟩ := back_rel R hN' ho R' (x1.trans x') p'
      exact kk _ _ _ _ _ q' R2 x2 .non trivial trivial
    · obtain ⟨R2, x2, o2⟩ := back_rel R hN' ho R' (x1.trans x') p'
      have n2 := x1.back n'
      cases ev with
      | val d => exact kk _ _ _ _ _ q' R2 x2 r' trivial trivial
      | fresh d =>
        obtain ⟨a, o, rfl, g1, g2, g3, g4⟩ := r'
        exact kk _ _ _ _ _ q' R2 x2 ⟨a, o, rfl, g1, g2, g3, fun z => g4 (o2 a z)⟩ n2 trivial
      | at_ i => exact (show False from q').elim
end
end PV
end
section
set_option Elab.async false
set_option linter.all false
set_option maxRecDepth 100000
set_option maxHeartbeats 4000000
namespace PV
open PySem L2
section
variable {X : Cx} {pos p : Pos}
/-! ### list(range(..)) -/
abbrev DR := DS → (Int → Int → DS → Prop) → Prop
def PVR (X : Cx) (e : Expr) (f : DR) : Prop := ∃ t, PRg X e t ∧ ∀ (G : Hp) (ds : DS) (σ : St) (H : Hp) (DQ : Int → Int → DS → Prop) (Q : Int → Int → Hp → Prop), Rel X.K G ds σ H → f ds DQ →
  (∀ a b ds' G' H', DQ a b ds' → Rel X.K G' ds' σ H' → Ext ds σ G H ds' σ G' H' → Q a b H') → t σ H Q
def intD (d : D) (Q : Int → Prop) : Prop := match d with
  | .int i => Q i
  | _ => False
theorem intD_v {d : D} {Q : Int → Prop} (h : intD d Q) : ∃ i, d = .int i ∧ Q i := by
  unfold intD at h
  split at h
  · exact ⟨_, rfl, h⟩
  · exact h.elim
def rg1 (f : DE) : DR := fun ds Q => f ds fun e ds1 => rd e ds1 fun d => intD d fun n => Q 0 n ds1
def rg2 (f g : DE) : DR := fun ds Q => f ds fun e1 ds1 => g ds1 fun e2 ds2 => rd (nm e1) ds2 fun d1 => rd e2 ds2 fun d2 => intD d1 fun a => intD d2 fun b => Q a b ds2
theorem pvr_1 {a : Expr} {f : DE} (hg : Gl X "range") (hm : X.mg "range" = none) (ha : PVE X a f) (na : starEach [a] X.env = (false, eval a X.env) :: starEach [] X.env := by rfl) : PVR X (.Call (.Name "range" p) [a] [] pos) (rg1 f) := by
  obtain ⟨t, h1, h2⟩ := ha
  refine ⟨_, prg_1 hg hm h1 na, fun G ds σ H DQ Q R q k => h2 G ds σ H _ _ R q fun ev ds1 v G1 H1 q1 R1 x1 r1 n1 => ?_⟩
  obtain ⟨d, s, q2⟩ := rd_sh R1 r1 q1
  obtain ⟨i, rfl, q3⟩ := intD_v q2
  exact ⟨i, s.int, k _ _ _ _ _ q3 R1 x1⟩
theorem pvr_2 {a b : Expr} {f g : DE} (hg : Gl X "range") (hm : X.mg "range" = none) (ha : PVE X a f) (hb : PVE X b g) (na : starEach [a, b] X.env = (false, eval a X.env) :: starEach [b] X.env := by rfl) (nb : starEach [b] X.env = (false, eval b X.env) :: starEach [] X.env := by rfl) (hpl : (backTo pos (starEach [b] X.env)).any (·.1) = false := by rfl) : PVR X (.Call (.Name "range" p) [a, b] [] pos) (rg2 f g) := by
  obtain ⟨ta, tb, h1, h2, hk⟩ := bin_ok ha hb
  refine ⟨_, prg_2 hg hm h1 h2 na nb hpl, fun G ds σ H DQ Q R q k => hk G ds σ H (fun d1 d2 ds2 => intD d1 fun a => intD d2 fun b => DQ a b ds2) _ R q fun x y d1 d2 ds' G' H' q' R' x' sx sy => ?_⟩
  obtain ⟨i, rfl, q2⟩ := intD_v q'
  obtain ⟨j, rfl, q3⟩ := intD_v q2
  exact ⟨i, j, sx.int, sy.int, k _ _ _ _ _ q3 R' x'⟩
theorem rgV_dp {K : PySem.W.Frag} {G : Hp} (a b : Int) : DpAll K G (rgV a b) (rngD a (b - a).toNat) := by
  have e : rgV a b = ((List.range (b - a).toNat).map fun k : Nat => a + (k : Int)).map V.int := by
    unfold rgV
    rw [List.map_map]; rfl
  have e2 : rngD a (b - a).toNat = ((List.range (b - a).toNat).map fun k : Nat => a + (k : Int)).map PyData.int := by
    unfold rngD
    rw [List.map_map]; rfl
  rw [e, e2]
  exact DpAll.ints _
def okRg (a b : Int) : Prop := bnd62 a ∧ bnd62 b ∧ b - a ≤ 16777216
theorem okRg_v {a b : Int} (h : okRg a b) : RgOk a b := by
  obtain ⟨⟨h1, h2⟩, ⟨h3, h4⟩, h5⟩ := h
  exact ⟨h1, h2, h3, h4, by omega⟩
def eLRg (f : DR) : DE := fun ds Q => f ds fun a b ds1 => okRg a b ∧ Q (.fresh (.list (rngD a (b - a).toNat))) ds1
def eTRg (f : DR) : DE := fun ds Q => f ds fun a b ds1 => okRg a b ∧ Q (.val (.tuple (rngD a (b - a).toNat))) ds1
theorem pve_listRg {e : Expr} {f : DR} (hc : X.calm = true) (hg : Gl X "list") (hm : X.mg "list" = none) (h : PVR X e f) (na : starEach [e] X.env = (false, eval e X.env) :: starEach [] X.env := by rfl) : PVE X (.Call (.Name "list" p) [e] [] pos) (eLRg f) := by
  obtain ⟨t, h1, h2⟩ := h
  refine ⟨_, pe_listRg hc hg hm h1 na, fun G ds σ H DQ Q R q k => h2 G ds σ H _ _ R q fun a b ds1 G1 H1 q1 R1 x1 => ⟨okRg_v q1.1, fun q hq => ?_⟩⟩
  obtain ⟨z1, z2, z3, z4⟩ := new_list R1 (rgV_dp a b) hq
  exact k _ _ _ _ _ q1.2 z1 (x1.trans z2) z3 (x1.back z4)
theorem pve_tupRg {e : Expr} {f : DR} (hc : X.calm = true) (hg : Gl X "tuple") (hm : X.mg "tuple" = none) (h : PVR X e f) (na : starEach [e] X.env = (false, eval e X.env) :: starEach [] X.env := by rfl) : PVE X (.Call (.Name "tuple" p) [e] [] pos) (eTRg f) := by
  obtain ⟨t, h1, h2⟩ := h
  refine ⟨_, pe_tupRg hc hg hm h1 na, fun G ds σ H DQ Q R q k => h2 G ds σ H _ _ R q fun a b ds1 G1 H1 q1 R1 x1 => ⟨okRg_v q1.1, fun q hq => ?_⟩⟩
  obtain ⟨z1, z2, z3⟩ := new_tup R1 (rgV_dp a b) hq
  exact k _ _ _ _ _ q1.2 z1 (x1.trans z2) z3 trivial
/-! ### isinstance(x, T) -/
def tyName : D → String
  | .none => "NoneType"
  | .bool _ => "bool"
  | .int _ => "int"
  | .str _ => "str"
  | .list _ => "list"
  | .tuple _ => "tuple"
  | .dict _ => "dict"
def isI (T : String) (d : D) : Bool := tyName d == T || (T == "int" && tyName d == "bool")
theorem tyX_of {K : PySem.W.Frag} {G H : Hp} {v : V} {d : D} (s : Same G H) (h : Sh K G H v d) : TyX K H v (.type (tyName d)) := by
  cases d with
  | none => rw [h.non]; exact .base .non
  | bool b => rw [h.bool]; exact .base (.bl b)
  | int i => rw [h.int]; exact .base (.int i)
  | str x => rw [h.str]; exact .base (.str x)
  | list l =>
    obtain ⟨a, vs, rfl, h1, h2⟩ := h.list s
    rcases h1 with (h1 | ⟨o, h1⟩) | ⟨o, its, n, hk, hc, _⟩
    · exact .base (.lst h1)
    · exact .base (.frz h1)
    · exact .kList hk hc
  | tuple l =>
    obtain ⟨a, vs, rfl, h1, h2⟩ := h.tuple s
    rcases h1 with (h1 | ⟨o, h1⟩) | ⟨o, its, n, hk, hc, _⟩
    · exact .base (.tup h1)
    · exact .fTuple h1
    · exact .kTuple hk hc
  | dict l =>
    rcases h with h | ⟨a, o, rfl, h, q⟩
    · cases h
    · cases o <;> exact False.elim q
/-- the answers of isinstance for the kinds of data -/
def kits (T : String) : Bool := ["NoneType", "bool", "int", "str", "list", "tuple", "dict"].all fun a => kitB a T == some (a == T || (T == "int" && a == "bool"))
theorem kits_v {K : PySem.W.Frag} {T : String} (h : kits T = true) (d : D) : PySem.W.kitOne K (.type (tyName d)) (.type T) = some (isI T d) := by
  have := (List.all_eq_true.mp h) (tyName d) (by cases d <;> simp [tyName])
  exact kit_ty (by simpa [isI] using this)
def eIsi (T : String) (f : DE) : DE := fun ds Q => f ds fun e ds1 => rd e ds1 fun d => Q (.val (.bool (isI T d))) ds1
theorem pve_isi {a : Expr} {f : DE} {T : String} {x : Str} {p2 : Pos} (hg : Gl X "isinstance") (hm : X.mg "isinstance" = none) (ha : PVE X a f) (hT : PE X (.Name x p2) (tC (.ty T))) (hk : kits T = true)
    (he : starEach [a, .Name x p2] X.env = (false, eval a X.env) :: starEach [.Name x p2] X.env := by rfl) (he2 : starEach [.Name x p2] X.env = (false, eval (.Name x p2) X.env) :: starEach [] X.env := by rfl) (hpl : (backTo pos (starEach [.Name x p2] X.env)).any (·.1) = false := by rfl) :
    PVE X (.Call (.Name "isinstance" p) [a, .Name x p2] [] pos) (eIsi T f) := by
  obtain ⟨t, h1, h2⟩ := ha
  refine ⟨_, pe_callB call_isi hg hm (by decide +kernel) (pa_cons h1 (pa_cons hT pa_nil he2) he) (by decide) (by decide) he hpl, fun G ds σ H DQ Q R q k => h2 G ds σ H _ _ R q fun ev ds1 v G1 H1 q1 R1 x1 r1 n1 => ?_⟩
  obtain ⟨d, s, q2⟩ := rd_sh R1 r1 q1
  exact ⟨v, .ty T, _, _, _, rfl, .ty T, tyX_of R1.sub s, kits_v hk d, k _ _ _ _ _ q2 R1 x1 (.bl _) trivial⟩
end

/-! ### side conditions in short -/
theorem un_of {X : Cx} {k : Nat} (h : Room k X.A) : X.A.units + 64 < cLine := h.units
theorem blk_by (N : List Str) (sc : Scope) {scope : Scope} {own : List (Str × Nat)} (h : blkC N sc scope own = true) : blkC N sc scope own = true := h
section
variable {X : Cx} {pn : List Nat} {pos : Pos}
/-- x = e, e no comprehension (or x a cell) -/
theorem aSet {i : Nat} {x : Str} {e : Expr} {fe : DE} {pos' : Pos} (hN : X.N.Nodup) (h : PVE X e fe) (hi : X.N[i]? = some x := by rfl) (hp : i ∉ pn := by decide) (hx : Loc X.env.scope x := by first | exact Or.inl rfl | exact Or.inr rfl)
    (hs : swapsWith e (some (.Name x pos')) pos.line X.env = pure false := by rfl) (hf : X.fn x = true ∨ X.env.scope.names.lookup x = some .local := by first | exact .inl rfl | exact .inr rfl) : PVS X pn (.Assign [.Name x pos'] e pos) (sSet i fe) :=
  pvs_set h hp fun te ht => ps_set hN hi hx ht hs hf
theorem aAug {i : Nat} {x : Str} {e : Expr} {fe : DE} {op : Operator} {dop : DOp} {pos' : Pos} (hN : X.N.Nodup) (ho : OpV X (inplaceOp op) dop) (h : PVE X e fe) (hi : X.N[i]? = some x := by rfl) (hp : i ∉ pn := by decide) (hx : Loc X.env.scope x := by first | exact Or.inl rfl | exact Or.inr rfl)
    (hf : X.fn x = true ∨ X.env.scope.names.lookup x = some .local := by first | exact .inl rfl | exact .inr rfl) : PVS X pn (.AugAssign (.Name x pos') op e pos) (sAug i dop fe) :=
  pvs_aug ho h hp fun te ti ht hti => ps_aug hN hi hx ht hti hf
theorem aPar {i j : Nat} {x y : Str} {a b : Expr} {fa : DA} {px py pt : Pos} {kt k2 pt2} (hc : X.calm = true) (hN : X.N.Nodup) (ha : PVA X [a, b] fa) (hi : X.N[i]? = some x := by rfl) (hj : X.N[j]? = some y := by rfl) (hij : i ≠ j := by decide) (hpi : i ∉ pn := by decide) (hpj : j ∉ pn := by decide)
    (hx : X.env.scope.names.lookup x = some .local := by rfl) (hy : X.env.scope.names.lookup y = some .local := by rfl)
    (hw : swappedStores [.Tuple [.Name x px, .Name y py] kt pt] (.Tuple [a, b] k2 pt2) X.env = pure (some [x, y]) := by rfl) (hs : swapsWithSole [.Tuple [.Name x px, .Name y py] kt pt] (.Tuple [a, b] k2 pt2) pos.line X.env = pure false := by rfl) :
    PVS X pn (.Assign [.Tuple [.Name x px, .Name y py] kt pt] (.Tuple [a, b] k2 pt2) pos) (sPar i j fa) :=
  pvs_par ha hpi hpj fun ta hta => ps_par hc hN hi hj hij hx hy hta hw hs
theorem aName {sl : List Nat} {i : Nat} {x : Str} (hN : X.N.Nodup) (hi : X.N[i]? = some x := by rfl) (hs : i ∈ sl := by decide) (hx : Loc X.env.scope x := by first | exact Or.inl rfl | exact Or.inr rfl) (hf : X.fn x = true ∨ X.env.scope.names.lookup x = some .local := by first | exact .inl rfl | exact .inr rfl) : PVG X sl (.Name x pos) (gN i) :=
  pvg_name (pg_name hN hi hx hf) hs
theorem iopv_add : OpV X (inplaceOp .Add) (oI0 fun a b => .int (a + b)) := opv_i0 iop_add fun _ _ _ => .int _
theorem iopv_sub : OpV X (inplaceOp .Sub) (oI0 fun a b => .int (a - b)) := opv_i0 iop_sub fun _ _ _ => .int _
end
end PV
namespace PV
open PySem L2
/-- the law's own call -/
theorem law_in {f : DSp} (h : ∀ ns : List Int, ns.length ≤ 63 → f [.fz (.list (ns.map PyData.int))] fun ev _ => ev = .val (.bool true)) {K : PySem.W.Frag} {H : Hp} {a : Addr} {ns : List Int} (hl : ns.length ≤ 63) (hS : SqL K H a (ns.map V.int)) {E : XK} :
    spD K 1 f [.ref a] H (fun v _ => v = .bl true) E := by
  have hd : Dp K H (.ref a) (.list (ns.map PyData.int)) := .lst hS (DpAll.ints ns)
  refine ⟨H, [.fz (.list (ns.map PyData.int))], _, rfl, ⟨Same.refl H, rfl, fun i d e => ?_, fun i d e => ?_, fun i j b p q => ?_⟩, h ns hl, fun ev as' v G' H' q R x r n na => ?_⟩
  · cases i with
    | zero => simp at e; subst e; exact ⟨.ref a, rfl, hd⟩
    | succ i => simp at e
  · cases i with
    | zero => simp at e
    | succ i => simp at e
  · obtain ⟨⟨d, e⟩, _⟩ := p
    cases i with
    | zero => simp at e
    | succ i => simp at e
  · subst q
    have r : Dp K G' v (.bool true) := r
    cases r
    rfl
end PV
end
section
set_option Elab.async false
set_option linter.all false
set_option maxRecDepth 100000
set_option maxHeartbeats 4000000
namespace PV
open PySem L2
/-! ### helpers for proofs over data -/
theorem divW {i j : Int} (h : 0 < j) (h2 : j < 2 ^ 64) : CDivW i j := wide_div (b := 64) h (by omega) (by decide) (by decide)
theorem mulL {i j : Int} (h : -(2 ^ 64) < i) (h2 : i < 2 ^ 64) : CMulA i j := .inl ⟨h, h2⟩
theorem mulR {i j : Int} (h : -(2 ^ 64) < j) (h2 : j < 2 ^ 64) : CMulA i j := .inr (.inl ⟨h, h2⟩)
theorem atD_i {α : Type} {xs : List α} {i : Int} {Q : α → Prop} {x : α} (h0 : 0 ≤ i) (h : xs[i.toNat]? = some x) (q : Q x) : atD xs i Q := by
  have : atI xs i = some x := by
    have := atI_nat h
    rw [show ((i.toNat : Nat) : Int) = i by omega] at this
    exact this
  unfold atD
  rw [this]
  exact q
theorem ixD_i {len : Nat} {n : Int} {k : Nat → Prop} (h0 : 0 ≤ n) (h1 : n < len) (q : k n.toNat) : ixD len n k := by
  have e : ixN len n = some n.toNat := by
    unfold ixN
    rw [if_pos h0, if_pos h1]
  unfold ixD
  rw [e]
  exact q
theorem ixD_nat {len j : Nat} {k : Nat → Prop} (h1 : j < len) (q : k j) : ixD len (j : Int) k := ixD_i (Int.natCast_nonneg j) (by omega) (by rw [Int.toNat_natCast]; exact q)
theorem oEq_i {d1 d2 : D} {Q : Ev → Prop} (b : Bool) (e : PyData.eqv d1 d2 = b) (h : min d1.depth d2.depth ≤ 60) (q : Q (.val (.bool b))) : oEq d1 d2 Q := by
  unfold oEq; rw [e]; exact ⟨h, q⟩
theorem oNe_i {d1 d2 : D} {Q : Ev → Prop} (b : Bool) (e : (!PyData.eqv d1 d2) = b) (h : min d1.depth d2.depth ≤ 60) (q : Q (.val (.bool b))) : oNe d1 d2 Q := by
  unfold oNe; rw [e]; exact ⟨h, q⟩
theorem oIn_i {d1 d2 : D} {ds : List D} {Q : Ev → Prop} (b : Bool) (hd : d2 = .list ds ∨ d2 = .tuple ds) (e : (ds.any fun z => PyData.eqv z d1) = b) (h : min (PyData.depthAll ds) d1.depth ≤ 60) (q : Q (.val (.bool b))) : oIn d1 d2 Q := by
  unfold oIn
  rcases hd with rfl | rfl
  · exact ⟨h, by rw [e]; exact q⟩
  · exact ⟨h, by rw [e]; exact q⟩
theorem oNotIn_i {d1 d2 : D} {ds : List D} {Q : Ev → Prop} (b : Bool) (hd : d2 = .list ds ∨ d2 = .tuple ds) (e : (!ds.any fun z => PyData.eqv z d1) = b) (h : min (PyData.depthAll ds) d1.depth ≤ 60) (q : Q (.val (.bool b))) : oNotIn d1 d2 Q := by
  unfold oNotIn
  rcases hd with rfl | rfl
  · exact ⟨h, by rw [e]; exact q⟩
  · exact ⟨h, by rw [e]; exact q⟩
theorem depth_int (i : Int) : (PyData.int i).depth = 0 := by simp [PyData.depth]
theorem depth_str (i : Str) : (PyData.str i).depth = 0 := by simp [PyData.depth]
theorem depth_bool (i : Bool) : (PyData.bool i).depth = 0 := by simp [PyData.depth]
theorem depth_none : (PyData.none).depth = 0 := by simp [PyData.depth]
theorem eqv_int (a b : Int) : PyData.eqv (.int a) (.int b) = decide (a = b) := by
  show (a == b) = decide (a = b)
  by_cases h : a = b
  · subst h; simp
  · simp [h]
theorem eqv_str (a b : Str) : PyData.eqv (.str a) (.str b) = decide (a = b) := by
  show (a == b) = decide (a = b)
  by_cases h : a = b
  · subst h; simp
  · simp [h]
theorem eqvAll_ints : ∀ (a b : List Int), PyData.eqvAll (a.map PyData.int) (b.map PyData.int) = decide (a = b)
  | [], [] => by simp [PyData.eqvAll]
  | [], _ :: _ => by simp [PyData.eqvAll]
  | _ :: _, [] => by simp [PyData.eqvAll]
  | x :: a, y :: b => by
    rw [List.map_cons, List.map_cons, PyData.eqvAll, eqvAll_ints a b, eqv_int]
    simp [Bool.decide_and]
theorem eqv_ints (a b : List Int) : PyData.eqv (.tuple (a.map PyData.int)) (.tuple (b.map PyData.int)) = decide (a = b) := eqvAll_ints a b
theorem eqv_intsL (a b : List Int) : PyData.eqv (.list (a.map PyData.int)) (.list (b.map PyData.int)) = decide (a = b) := eqvAll_ints a b
theorem depthAll_ints : ∀ (a : List Int), PyData.depthAll (a.map PyData.int) = 0
  | [] => by simp [PyData.depthAll]
  | x :: a => by rw [List.map_cons, PyData.depthAll, depthAll_ints a, depth_int]; rfl
theorem any_ints (a : List Int) (x : Int) : ((a.map PyData.int).any fun z => PyData.eqv z (.int x)) = decide (x ∈ a) := by
  rw [List.any_map]
  induction a with
  | nil => simp
  | cons b a ih =>
    rw [List.any_cons, ih]
    show (PyData.eqv (.int b) (.int x) || _) = _
    rw [eqv_int]
    simp [eq_comm]
/-- a walk by what holds ahead of each turn -/
theorem forGo_inv {ok : DS → Prop → Prop} {g : DG} {b : DSt} {E : DEn} (I : List D → List D → DS → Prop) (hok : ∀ {pre post ds P}, I pre post ds → P → ok ds P)
    (turn : ∀ pre x post ds (N : DS → Prop), I pre (x :: post) ds → (∀ ds', I (pre ++ [x]) post ds' → N ds') → g x ds fun ds1 => b { E with nx := N, ct := N, bk := E.nx } ds1)
    (fin : ∀ pre ds, I pre [] ds → E.nx ds) : ∀ {xs pre : List D} {ds : DS}, I pre xs ds → forGo ok g b xs E ds
  | [], pre, ds, h => hok h (fin pre ds h)
  | x :: xs, pre, ds, h => hok h (turn pre x xs ds _ h fun ds' h' => forGo_inv I hok turn fin h')
/-- a walk by the turn's number -/
theorem forGo_ix {ok : DS → Prop → Prop} {g : DG} {b : DSt} {E : DEn} {all : List D} (I : Nat → DS → Prop) (hok : ∀ {k ds P}, I k ds → P → ok ds P)
    (turn : ∀ k x ds (N : DS → Prop), all[k]? = some x → I k ds → (∀ ds', I (k + 1) ds' → N ds') → g x ds fun ds1 => b { E with nx := N, ct := N, bk := E.nx } ds1)
    (fin : ∀ ds, I all.length ds → E.nx ds) : ∀ {xs : List D} {k : Nat} {ds : DS}, k ≤ all.length → xs = all.drop k → I k ds → forGo ok g b xs E ds
  | [], k, ds, hk, hx, h => by
    have : k = all.length := by
      have := congrArg List.length hx
      rw [List.length_drop] at this
      simp at this
      omega
    subst this
    exact hok h (fin ds h)
  | x :: xs, k, ds, hk, hx, h => by
    have hlt : k < all.length := by
      have := congrArg List.length hx
      rw [List.length_drop, List.length_cons] at this
      omega
    rw [List.drop_eq_getElem_cons hlt] at hx
    injection hx with h1 h2
    exact hok h (turn k x ds _ (by rw [List.getElem?_eq_getElem hlt, h1]) h fun ds' h' => forGo_ix I hok turn fin hlt h2 h')
theorem rngD_get {lo : Int} {n k : Nat} {x : D} (h : (rngD lo n)[k]? = some x) : k < n ∧ x = .int (lo + k) := by
  unfold rngD at h
  rw [List.getElem?_map] at h
  cases e : (List.range n)[k]? with
  | none => rw [e] at h; cases h
  | some j =>
    rw [e] at h
    have hk : k < n := by simpa using (List.getElem?_eq_some_iff.mp e).1
    rw [List.getElem?_range hk] at e
    cases e
    cases h
    exact ⟨hk, rfl⟩
theorem rngD_len {lo : Int} {n : Nat} : (rngD lo n).length = n := by simp [rngD]
/-- for k in range -/
theorem forGo_rng {g : DG} {b : DSt} {E : DEn} {lo : Int} {n : Nat} {ds : DS} (I : Nat → DS → Prop) (h0 : I 0 ds)
    (turn : ∀ k ds (N : DS → Prop), k < n → I k ds → (∀ ds', I (k + 1) ds' → N ds') → g (.int (lo + k)) ds fun ds1 => b { E with nx := N, ct := N, bk := E.nx } ds1)
    (fin : ∀ ds, I n ds → E.nx ds) : forGo (guard none (rngD lo n)) g b (rngD lo n) E ds := by
  refine forGo_ix (all := rngD lo n) I (fun {k ds P} _ p => p) (fun k x ds N hx hI hN => ?_) (fun ds h => fin ds (by rw [rngD_len] at h; exact h)) (Nat.zero_le _) rfl h0
  obtain ⟨hk, rfl⟩ := rngD_get hx
  exact turn k ds N hk hI hN
/-- over items that are all of one kind -/
theorem lcGo_inv {ok : DS → Prop → Prop} {vs : List Nat} {g : DG} {tt : DT} {te : DF} {Q : List D → DS → Prop} (I : List D → List D → List D → DS → Prop) (hok : ∀ {pre post acc ds P}, I pre post acc ds → P → ok ds P)
    (turn : ∀ pre x post acc ds (N : List D → DS → Prop), I pre (x :: post) acc ds → (∀ acc' ds', I (pre ++ [x]) post acc' ds' → N acc' ds') → g x (wipD ds vs) fun ds1 => tt ds1 fun b ds2 => br b (te ds2 fun d ds3 => acc.length < 16777216 ∧ N (acc ++ [d]) (rstD ds vs ds3)) (N acc (rstD ds vs ds2)))
    (fin : ∀ pre acc ds, I pre [] acc ds → Q acc ds) : ∀ {xs pre acc : List D} {ds : DS}, I pre xs acc ds → lcGo ok vs g tt te xs acc ds Q
  | [], pre, acc, ds, h => hok h (fin pre acc ds h)
  | x :: xs, pre, acc, ds, h => hok h (turn pre x xs acc ds (fun acc' ds' => lcGo ok vs g tt te xs acc' ds' Q) h fun acc' ds' h' => lcGo_inv I hok turn fin h')
end PV
end
section
set_option Elab.async false
set_option linter.all false
set_option maxRecDepth 100000
set_option maxHeartbeats 4000000
namespace PV
open PySem L2
def b_L_begin : DSt :=
  (sRet [0] (eLst (aCons (eLc (iFz (eSl (eVar 0) pNo (pSome (eC (.int 63))))) [1] (gN 1) tTrue (eFz (eBi cInt (aCons (eVar 1) aNil)))) (aCons (eC (.int 0)) (aCons (eC (.int 0)) (aCons (eC (.int 7)) aNil))))))
@[irreducible] def m_L_begin : DSp := runF [true] 1 b_L_begin
def b_L_draw : DSt :=
  (sSeq (sIf (tB (eOp oGt (eIx (eVar 0) (eC (.int 2))) (eC (.int 0)))) (sSeq (sSet 2 (eIx (eVar 0) (eC (.int 2))))
    (sSeq (sSetIx 0 (eOp oDiv (eVar 2) (eVar 1)) (eC (.int 2)))
    (sRet [0, 1] (eOp oMod (eBi cInt (aCons (eVar 2) aNil)) (eVar 1))))) sNil)
    (sSeq (sSet 3 (eIf (tB (eOp oLt (eIx (eVar 0) (eC (.int 1))) (eBi cLen (aCons (eIx (eVar 0) (eC (.int 0))) aNil)))) (eIx (eIx (eVar 0) (eC (.int 0))) (eIx (eVar 0) (eC (.int 1)))) (eC (.int 0))))
    (sSeq (sSet 4 (eOp oAdd (eOp oMul (eC (.int 2)) (eBi cAbs (aCons (eVar 3) aNil))) (eBi cInt (aCons (eOp oLt (eVar 3) (eC (.int 0))) aNil))))
    (sSeq (sAugIx 0 (oI0 fun a b => .int (a + b)) (eC (.int 1)) (eC (.int 1)))
    (sSeq (sIf (tB (eOp oGe (eVar 4) (eOp oMul (eC (.int 2)) (eOp oPow (eC (.int 10)) (eC (.int 18)))))) (sSeq (sSet 2 (eOp oMod (eBi cInt (aCons (eOp oDiv (eVar 4) (eC (.int 2))) aNil)) (eOp oShl (eC (.int 1)) (eC (.int 6000)))))
    (sSeq (sSetIx 0 (eOp oDiv (eVar 2) (eVar 1)) (eC (.int 2)))
    (sRet [0, 1] (eOp oMod (eBi cInt (aCons (eVar 2) aNil)) (eVar 1))))) sNil)
    (sSeq (sSetIx 0 (eOp oMod (eBi cInt (aCons (eOp oAdd (eOp oAdd (eOp oAdd (eOp oMul (eIx (eVar 0) (eC (.int 3))) (eC (.int 48271))) (eOp oMul (eOp oMod (eBi cInt (aCons (eVar 4) aNil)) (eC (.int 2147483629))) (eC (.int 16807)))) (eOp oMul (eIx (eVar 0) (eC (.int 1))) (eC (.int 69621)))) (eC (.int 11))) aNil)) (eC (.int 2147483647))) (eC (.int 3)))
    (sRet [0, 1] (eOp oMod (eBi cInt (aCons (eOp oDiv (eIx (eVar 0) (eC (.int 3))) (eC (.int 16))) aNil)) (eVar 1)))))))))
@[irreducible] def m_L_draw : DSp := runF [true, true] 3 b_L_draw
def b_L_pick : DSt :=
  (sRet [0, 1] (eIx (eVar 1) (eCall m_L_draw 2 [true, false] (aCons (eVar 0) (aCons (eBi cLen (aCons (eVar 1) aNil)) aNil)))))
@[irreducible] def m_L_pick : DSp := runF [true, true] 0 b_L_pick
def b_L_pop : DSt :=
  (sRet [0, 1] (eMut 1 mPop (aCons (eCall m_L_draw 2 [true, false] (aCons (eVar 0) (aCons (eBi cLen (aCons (eVar 1) aNil)) aNil))) aNil)))
@[irreducible] def m_L_pop : DSp := runF [true, true] 0 b_L_pop
def b_L_shuffled : DSt :=
  (sSeq (sSet 2 (eBi cList (aCons (eVar 1) aNil)))
    (sRet [0, 1] (eLc (iRange1 (aCons (eBi cLen (aCons (eVar 1) aNil)) aNil)) [3] (gN 3) tTrue (eFz (eMut 2 mPop (aCons (eCall m_L_draw 2 [true, false] (aCons (eVar 0) (aCons (eBi cLen (aCons (eVar 2) aNil)) aNil))) aNil))))))
@[irreducible] def m_L_shuffled : DSp := runF [true, true] 2 b_L_shuffled
def b_L_is_int : DSt :=
  (sRet [0] (eAnd (eIsi "int" (eVar 0)) (eNot (eIsi "bool" (eVar 0)))))
@[irreducible] def m_L_is_int : DSp := runF [true] 0 b_L_is_int
def b_L_is_ints : DSt :=
  (sRet [0] (eAnd (eIsi "tuple" (eVar 0)) (eBi cAll (aCons (eLc (iSlot 0) [1] (gN 1) tTrue (eFz (eCall m_L_is_int 1 [true] (aCons (eVar 1) aNil)))) aNil))))
@[irreducible] def m_L_is_ints : DSp := runF [true] 1 b_L_is_ints
end PV
end
section
set_option Elab.async false
set_option linter.all false
set_option maxRecDepth 100000
set_option maxHeartbeats 4000000
namespace PV
open PySem L2
local macro_rules | `(tactic| walk_at "w") => `(tactic| (conv => whnf))
/-- the state of the draws -/
def Dr (l : List D) : Prop := ∃ (cells : List Int) (a b c : Int), l = [.list (cells.map PyData.int), .int a, .int b, .int c] ∧ 0 ≤ a
theorem seq_set_cut {i : Nat} {f : DE} {g : DSt} {E : DEn} {ds : DS} (P : Ev → DS → Prop) (h : ∀ Q : Ev → DS → Prop, (∀ ev ds', P ev ds' → Q ev ds') → f ds Q) (k : ∀ ev ds', P ev ds' → stv i ev ds' (g E)) : sSeq (sSet i f) g E ds := h _ k
theorem sNil_i {E : DEn} {ds : DS} (h : E.nx ds) : sNil E ds := h
theorem draw_ok {many : Int} (h0 : 0 < many) (h1 : many < 2 ^ 64) {l : List D} (hl : Dr l) {Q : Ev → List Sl → Prop}
    (k : ∀ r l', 0 ≤ r → r < many → Dr l' → Q (.val (.int r)) [.ow (.list l'), .fz (.int many)]) : m_L_draw [.ow (.list l), .fz (.int many)] Q := by
  obtain ⟨cells, a, b, c, rfl, ha⟩ := hl
  unfold m_L_draw b_L_draw
  walk_at "w"
  refine br_i (fun hb => ?_) (fun hb => ?_)
  · walk_at "w"
    refine ⟨divW h0 h1, ?_⟩
    walk_at "w"
    refine ⟨h0, ?_⟩
    exact k _ _ (Int.emod_nonneg _ (by omega)) (Int.emod_lt_of_pos _ h0) ⟨cells, a, _, c, rfl, ha⟩
  · refine sNil_i ?_
    dsimp only
    refine seq_set_cut (fun ev ds' => ∃ cell : Int, ev = .val (.int cell) ∧ ds' = [Sl.ow (.list [.list (cells.map PyData.int), .int a, .int b, .int c]), .fz (.int many), .no, .no, .no]) (fun Q hQ => ?_) ?_
    · walk_at "w"
      refine br_i (fun hb2 => ?_) (fun hb2 => ?_)
      · have hb2 : a < ((cells.map PyData.int).length : Int) := of_decide_eq_true hb2
        show atD (cells.map PyData.int) a _
        rw [List.length_map] at hb2
        have hj : a.toNat < cells.length := by omega
        refine atD_i (x := .int cells[a.toNat]) ha (by rw [List.getElem?_map, List.getElem?_eq_getElem hj]; rfl) ?_
        exact hQ _ _ ⟨_, rfl, rfl⟩
      · exact hQ _ _ ⟨_, rfl, rfl⟩
    · rintro ev ds' ⟨cell, rfl, rfl⟩
      walk_at "w"
      refine ⟨mulL (by decide) (by decide), ?_⟩
      walk_at "w"
      refine ⟨⟨by decide, by decide, by decide⟩, ?_⟩
      walk_at "w"
      refine ⟨mulL (by decide) (by decide), ?_⟩
      walk_at "w"
      refine br_i (fun hb3 => ?_) (fun hb3 => ?_)
      · walk_at "w"
        refine ⟨divW (by decide) (by decide), ?_⟩
        walk_at "w"
        refine ⟨⟨by decide, by decide, by decide⟩, ?_⟩
        walk_at "w"
        refine ⟨?_, ?_⟩
        · show (0 : Int) < 1 * 2 ^ 6000
          rw [Int.one_mul]
          exact Int.pow_pos (by decide)
        walk_at "w"
        refine ⟨divW h0 h1, ?_⟩
        walk_at "w"
        refine ⟨h0, ?_⟩
        exact k _ _ (Int.emod_nonneg _ (by omega)) (Int.emod_lt_of_pos _ h0) ⟨cells, a + 1, _, c, rfl, by omega⟩
      · walk_at "w"
        refine ⟨mulR (by decide) (by decide), ?_⟩
        walk_at "w"
        refine ⟨show (0 : Int) < 2147483629 by decide, ?_⟩
        walk_at "w"
        refine ⟨mulR (by decide) (by decide), ?_⟩
        walk_at "w"
        refine ⟨mulR (by decide) (by decide), ?_⟩
        walk_at "w"
        refine ⟨show (0 : Int) < 2147483647 by decide, ?_⟩
        walk_at "w"
        refine ⟨divW (by decide) (by decide), ?_⟩
        walk_at "w"
        refine ⟨h0, ?_⟩
        exact k _ _ (Int.emod_nonneg _ (by omega)) (Int.emod_lt_of_pos _ h0) ⟨cells, a + 1, b, _, rfl, by omega⟩
/-- a slot that holds these items -/
inductive Row : Sl → List D → Prop where
  | fl (xs : List D) : Row (.fz (.list xs)) xs
  | ft (xs : List D) : Row (.fz (.tuple xs)) xs
  | ow (xs : List D) : Row (.ow (.list xs)) xs
theorem pick_ok {l : List D} (hl : Dr l) {s : Sl} {xs : List D} (hs : Row s xs) (h0 : xs ≠ []) (h1 : xs.length ≤ 16777216) {Q : Ev → List Sl → Prop}
    (k : ∀ x l', x ∈ xs → Dr l' → Q (.val x) [.ow (.list l'), s]) : m_L_pick [.ow (.list l), s] Q := by
  have hp : 0 < xs.length := List.length_pos_iff.mpr h0
  unfold m_L_pick b_L_pick
  cases hs with
  | fl xs =>
    refine draw_ok (many := (xs.length : Int)) (by omega) (by omega) hl fun r l' hr0 hr1 hl' => ?_
    show atD xs r _
    have hj : r.toNat < xs.length := by omega
    exact atD_i hr0 (List.getElem?_eq_getElem hj) (k _ _ (List.getElem_mem hj) hl')
  | ft xs =>
    refine draw_ok (many := (xs.length : Int)) (by omega) (by omega) hl fun r l' hr0 hr1 hl' => ?_
    show atD xs r _
    have hj : r.toNat < xs.length := by omega
    exact atD_i hr0 (List.getElem?_eq_getElem hj) (k _ _ (List.getElem_mem hj) hl')
  | ow xs =>
    refine draw_ok (many := (xs.length : Int)) (by omega) (by omega) hl fun r l' hr0 hr1 hl' => ?_
    show atD xs r _
    have hj : r.toNat < xs.length := by omega
    exact atD_i hr0 (List.getElem?_eq_getElem hj) (k _ _ (List.getElem_mem hj) hl')
theorem mPop_i {l : List D} {r : Int} {Q : List D → D → Prop} (h0 : 0 ≤ r) (h1 : r < l.length) (h2 : l.length ≤ 16777216) (k : ∀ (hj : r.toNat < l.length), Q (l.eraseIdx r.toNat) l[r.toNat]) : mPop l [.int r] Q := by
  have hj : r.toNat < l.length := by omega
  have e : ixN l.length r = some r.toNat := by unfold ixN; rw [if_pos h0, if_pos h1]
  unfold mPop
  refine ⟨⟨by omega, by omega⟩, ?_⟩
  rw [e]
  simp only [List.getElem?_eq_getElem hj]
  exact k hj
theorem pop_ok {l : List D} (hl : Dr l) {xs : List D} (h0 : xs ≠ []) (h1 : xs.length ≤ 16777216) {Q : Ev → List Sl → Prop}
    (k : ∀ (j : Nat) (hj : j < xs.length) l', Dr l' → Q (.val xs[j]) [.ow (.list l'), .ow (.list (xs.eraseIdx j))]) : m_L_pop [.ow (.list l), .ow (.list xs)] Q := by
  have hp : 0 < xs.length := List.length_pos_iff.mpr h0
  unfold m_L_pop b_L_pop
  refine draw_ok (many := (xs.length : Int)) (by omega) (by omega) hl fun r l' hr0 hr1 hl' => ?_
  walk_at "w"
  exact mPop_i hr0 hr1 h1 fun hj => k _ hj _ hl'
theorem perm_erase {xs : List D} {j : Nat} (hj : j < xs.length) : (xs[j] :: xs.eraseIdx j).Perm xs := by
  induction xs generalizing j with
  | nil => simp at hj
  | cons x xs ih =>
    cases j with
    | zero => exact List.Perm.refl _
    | succ j =>
      have := ih (j := j) (by simpa using hj)
      simp only [List.getElem_cons_succ, List.eraseIdx_cons_succ]
      exact (List.Perm.swap _ _ _).trans (List.Perm.cons _ this)
theorem shuffled_ok {l : List D} (hl : Dr l) {s : Sl} {xs : List D} (hs : Row s xs) (h1 : xs.length ≤ 1000000) {Q : Ev → List Sl → Prop}
    (k : ∀ ys l', ys.Perm xs → Dr l' → Q (.fresh (.list ys)) [.ow (.list l'), s]) : m_L_shuffled [.ow (.list l), s] Q := by
  unfold m_L_shuffled b_L_shuffled
  have key : ∀ E : DEn, (∀ ys l', ys.Perm xs → Dr l' → E.rt (.fresh (.list ys)) [.ow (.list l'), s, .ow (.list []), .no]) →
      (sRet [0, 1] (eLc (iRange1 (aCons (eBi cLen (aCons (eVar 1) aNil)) aNil)) [3] (gN 3) tTrue (eFz (eMut 2 mPop (aCons (eCall m_L_draw 2 [true, false] (aCons (eVar 0) (aCons (eBi cLen (aCons (eVar 2) aNil)) aNil))) aNil))))) E [.ow (.list l), s, .ow (.list xs), .no] := by
    intro E kk
    have go : lcGo (guard none (rngD 0 (xs.length : Int).toNat)) [3] (gN 3) tTrue (eFz (eMut 2 mPop (aCons (eCall m_L_draw 2 [true, false] (aCons (eVar 0) (aCons (eBi cLen (aCons (eVar 2) aNil)) aNil))) aNil))) (rngD 0 (xs.length : Int).toNat) [] [.ow (.list l), s, .ow (.list xs), .no] (fun acc ds => E.rt (.fresh (.list acc)) ds) := by
      refine lcGo_inv (fun pre post acc ds => ∃ l' rest, ds = [.ow (.list l'), s, .ow (.list rest), .no] ∧ Dr l' ∧ rest.length = post.length ∧ (acc ++ rest).Perm xs) (fun {pre post acc ds P} _ p => p) ?_ ?_ (pre := []) ⟨l, xs, rfl, hl, by simp [rngD], by simp⟩
      · rintro pre x post acc ds N ⟨l', rest, rfl, hl', hr, hp⟩ kN
        have hlen := hp.length_eq
        rw [List.length_append] at hlen
        rw [List.length_cons] at hr
        have goal : (eMut 2 mPop (aCons (eCall m_L_draw 2 [true, false] (aCons (eVar 0) (aCons (eBi cLen (aCons (eVar 2) aNil)) aNil))) aNil)) [.ow (.list l'), s, .ow (.list rest), .fz x] (fun e ds1 => frz e ds1 fun d ds3 => acc.length < 16777216 ∧ N (acc ++ [d]) (rstD [.ow (.list l'), s, .ow (.list rest), .no] [3] ds3)) := by
          refine draw_ok (many := (rest.length : Int)) (by omega) (by omega) hl' fun r l2 hr0 hr1 hl2 => ?_
          walk_at "w"
          refine mPop_i hr0 hr1 (by omega) fun hj => ⟨by omega, kN _ _ ⟨l2, rest.eraseIdx r.toNat, rfl, hl2, ?_, ?_⟩⟩
          · rw [List.length_eraseIdx_of_lt hj]; omega
          · rw [List.append_assoc]
            exact (List.Perm.append_left acc (perm_erase hj)).trans hp
        exact goal
      · rintro pre acc ds ⟨l', rest, rfl, hl', hr, hp⟩
        have : rest = [] := List.length_eq_zero_iff.mp hr
        subst this
        rw [List.append_nil] at hp
        exact kk _ _ hp hl'
    cases hs with
    | fl xs => exact ⟨⟨by omega, by omega⟩, go⟩
    | ft xs => exact ⟨⟨by omega, by omega⟩, go⟩
    | ow xs => exact ⟨⟨by omega, by omega⟩, go⟩
  cases hs with
  | fl xs => exact key _ fun ys l' hp hl' => k ys l' hp hl'
  | ft xs => exact key _ fun ys l' hp hl' => k ys l' hp hl'
  | ow xs => exact key _ fun ys l' hp hl' => k ys l' hp hl'
def isIntD : D → Bool
  | .int _ => true
  | _ => false
theorem is_int_ok {d : D} {Q : Ev → List Sl → Prop} (k : Q (.val (.bool (isIntD d))) [.fz d]) : m_L_is_int [.fz d] Q := by
  unfold m_L_is_int b_L_is_int
  cases d <;> exact k
def isIntsD : D → Bool
  | .tuple xs => xs.all isIntD
  | _ => false
/-- a comprehension without tests whose element is a function of the item and leaves the slots -/
theorem lcGo_map {vs : List Nat} {g : DG} {te : DF} {all : List D} {Q : List D → DS → Prop} {ds : DS} (f : D → D) (h : ∀ x ∈ all, ∀ N : D → DS → Prop, (∀ ds', rstD ds vs ds' = ds → N (f x) ds') → g x (wipD ds vs) fun ds1 => te ds1 N) :
    ∀ {xs acc : List D}, (∀ x ∈ xs, x ∈ all) → acc.length + xs.length ≤ 16777216 → Q (acc ++ xs.map f) ds → lcGo (guard none all) vs g tTrue te xs acc ds Q
  | [], acc, _, _, q => by rw [List.map_nil, List.append_nil] at q; exact q
  | x :: xs, acc, hm, hz, q => by
    refine h x (hm x List.mem_cons_self) _ fun ds' e => ?_
    rw [List.length_cons] at hz
    refine ⟨by omega, ?_⟩
    rw [e]
    exact lcGo_map f h (fun y hy => hm y (List.mem_cons_of_mem _ hy)) (by rw [List.length_append, List.length_singleton]; omega) (by rw [List.append_assoc]; exact q)
theorem boolsOf_mapD {f : D → Bool} {xs : List D} {Q : List Bool → Prop} (h : Q (xs.map f)) : boolsOf (xs.map fun x => PyData.bool (f x)) Q := by
  rw [show (xs.map fun x => PyData.bool (f x)) = (xs.map f).map PyData.bool by rw [List.map_map]; rfl]
  exact boolsOf_map.mpr h
theorem is_ints_ok {d : D} {Q : Ev → List Sl → Prop} (hz : ∀ xs, d = .tuple xs → xs.length ≤ 16777216) (k : Q (.val (.bool (isIntsD d))) [.fz d]) : m_L_is_ints [.fz d] Q := by
  unfold m_L_is_ints b_L_is_ints
  cases d with
  | tuple xs =>
    have go : lcGo (guard none xs) [1] (gN 1) tTrue (eFz (eCall m_L_is_int 1 [true] (aCons (eVar 1) aNil))) xs [] [.fz (.tuple xs), .no] (fun acc ds => cAll [.list acc] fun ev => retv [0] ev ds fun ev ds => retOk ev (Q ev (backA [.fz (.tuple xs)] ds))) := by
      refine lcGo_map (fun x => .bool (isIntD x)) (fun x _ N hN => ?_) (fun _ h => h) (by simpa using hz xs rfl) ?_
      · exact is_int_ok (hN _ rfl)
      · refine boolsOf_mapD ?_
        have e : (xs.map isIntD).all (fun b => b) = isIntsD (.tuple xs) := by simp [isIntsD, List.all_map]; rfl
        rw [e]
        exact k
    exact go
  | _ => exact k
theorem begin_ok {ns : List Int} (h : ns.length ≤ 63) {Q : Ev → List Sl → Prop} (k : ∀ l, Dr l → Q (.fresh (.list l)) [.fz (.list (ns.map PyData.int))]) : m_L_begin [.fz (.list (ns.map PyData.int))] Q := by
  unfold m_L_begin b_L_begin
  have e : ∃ ms : List Int, cutG (ns.map PyData.int) none (some 63) = ms.map PyData.int ∧ ms.length ≤ ns.length := by
    refine ⟨cutG ns none (some 63), ?_, ?_⟩
    · unfold cutG; rw [List.length_map, List.map_take, List.map_drop]
    · unfold cutG; rw [List.length_take, List.length_drop]; omega
  obtain ⟨ms, e, hm⟩ := e
  have go : lcGo (guard none (cutG (ns.map PyData.int) none (some 63))) [1] (gN 1) tTrue (eFz (eBi cInt (aCons (eVar 1) aNil))) (cutG (ns.map PyData.int) none (some 63)) [] [.fz (.list (ns.map PyData.int)), .no]
      (fun acc ds => (eLst (fun ds Q => Q [.val (.list acc), .val (.int 0), .val (.int 0), .val (.int 7)] ds)) ds fun ev ds1 => retv [0] ev ds1 fun ev ds => retOk ev (Q ev (backA [.fz (.list (ns.map PyData.int))] ds))) := by
    rw [e]
    refine lcGo_map (fun x => x) (fun x hx N hN => ?_) (fun _ h => h) (by rw [List.length_map]; simp; omega) ?_
    · obtain ⟨i, _, rfl⟩ := List.mem_map.mp hx
      exact hN _ rfl
    · rw [List.map_id', List.nil_append]
      exact k _ ⟨ms, 0, 0, 7, rfl, by decide⟩
  exact go
end PV
end
section
set_option Elab.async false
set_option linter.all false
set_option maxRecDepth 100000
set_option maxHeartbeats 4000000
/-! mathematics of comparisons: plain Lean -/
namespace PV
open PySem
inductive Op4 where
  | lt | le | eq | ne
  deriving DecidableEq
structure Rule where
  x : Nat
  op : Op4
  y : Nat
  deriving DecidableEq
abbrev Edge := Nat × Nat
/-- as the program lists them -/
def stepsOf : List Rule → List Edge
  | [] => []
  | r :: rs => (if r.op = .ne then [] else [(r.x, r.y)]) ++ ((if r.op = .eq then [(r.y, r.x)] else []) ++ stepsOf rs)
/-- as the law lists them -/
def stepsL (rs : List Rule) : List Edge := (rs.filter fun r => decide (r.op ≠ .ne)).map (fun r => (r.x, r.y)) ++ (rs.filter fun r => decide (r.op = .eq)).map fun r => (r.y, r.x)
theorem mem_stepsOf {e : Edge} : ∀ {rs : List Rule}, e ∈ stepsOf rs ↔ ∃ r ∈ rs, (r.op ≠ .ne ∧ e = (r.x, r.y)) ∨ (r.op = .eq ∧ e = (r.y, r.x))
  | [] => by simp [stepsOf]
  | ⟨x, op, y⟩ :: rs => by
    unfold stepsOf
    rw [List.mem_append, List.mem_append, mem_stepsOf]
    cases op <;> simp [or_assoc]
theorem mem_stepsL {e : Edge} {rs : List Rule} : e ∈ stepsL rs ↔ ∃ r ∈ rs, (r.op ≠ .ne ∧ e = (r.x, r.y)) ∨ (r.op = .eq ∧ e = (r.y, r.x)) := by
  unfold stepsL
  simp only [List.mem_append, List.mem_map, List.mem_filter, decide_eq_true_eq]
  constructor
  · rintro (⟨r, ⟨h1, h2⟩, rfl⟩ | ⟨r, ⟨h1, h2⟩, rfl⟩)
    · exact ⟨r, h1, .inl ⟨h2, rfl⟩⟩
    · exact ⟨r, h1, .inr ⟨h2, rfl⟩⟩
  · rintro ⟨r, h1, ⟨h2, rfl⟩ | ⟨h2, rfl⟩⟩
    · exact .inl ⟨r, ⟨h1, h2⟩, rfl⟩
    · exact .inr ⟨r, ⟨h1, h2⟩, rfl⟩
theorem steps_same {rs : List Rule} {e : Edge} : e ∈ stepsOf rs ↔ e ∈ stepsL rs := mem_stepsOf.trans mem_stepsL.symm
inductive Reach (es : List Edge) : Nat → Nat → Prop where
  | refl (x : Nat) : Reach es x x
  | step {x y z : Nat} : Reach es x y → (y, z) ∈ es → Reach es x z
theorem Reach.trans {es : List Edge} {x y z : Nat} (a : Reach es x y) (b : Reach es y z) : Reach es x z := by
  induction b with
  | refl => exact a
  | step _ h ih => exact .step ih h
theorem Reach.mono {es fs : List Edge} (h : ∀ e ∈ es, e ∈ fs) {x y : Nat} (a : Reach es x y) : Reach fs x y := by
  induction a with
  | refl => exact .refl _
  | step _ q ih => exact .step ih (h _ q)
theorem Reach.lt {es : List Edge} {n : Nat} (h : ∀ e ∈ es, e.1 < n ∧ e.2 < n) {x y : Nat} (a : Reach es x y) (hx : x < n) : y < n := by
  induction a with
  | refl => exact hx
  | step _ q ih => exact (h _ q).2
/-- paths through nodes below n -/
def RB (es : List Edge) : Nat → Nat → Nat → Bool
  | 0, x, y => (x == y) || es.contains (x, y)
  | n + 1, x, y => RB es n x y || (RB es n x n && RB es n n y)
theorem rb_reach (es : List Edge) : ∀ (n : Nat) {x y : Nat}, RB es n x y = true → Reach es x y
  | 0, x, y, h => by
    simp [RB] at h
    rcases h with rfl | h
    · exact .refl _
    · exact .step (.refl _) h
  | n + 1, x, y, h => by
    simp [RB] at h
    rcases h with h | ⟨h1, h2⟩
    · exact rb_reach es n h
    · exact (rb_reach es n h1).trans (rb_reach es n h2)
theorem rb_le {es : List Edge} {x y : Nat} {n : Nat} (h : RB es n x y = true) : ∀ k, RB es (n + k) x y = true
  | 0 => h
  | k + 1 => by show RB es (n + k + 1) x y = true; simp [RB, rb_le h k]
theorem rb_through {es : List Edge} : ∀ {n : Nat} {x z y : Nat}, z < n → RB es n x z = true → RB es n z y = true → RB es n x y = true
  | n + 1, x, z, y, hz, h1, h2 => by
    simp only [RB, Bool.or_eq_true, Bool.and_eq_true] at h1 h2 ⊢
    rcases Nat.lt_succ_iff_lt_or_eq.mp hz with hz | rfl
    · rcases h1 with h1 | ⟨h1, h1'⟩ <;> rcases h2 with h2 | ⟨h2, h2'⟩
      · exact .inl (rb_through hz h1 h2)
      · exact .inr ⟨rb_through hz h1 h2, h2'⟩
      · exact .inr ⟨h1, rb_through hz h1' h2⟩
      · exact .inr ⟨h1, h2'⟩
    · have a : RB es z x z = true := by
        rcases h1 with h1 | h1
        · exact h1
        · exact h1.1
      have b : RB es z z y = true := by
        rcases h2 with h2 | h2
        · exact h2
        · exact h2.2
      exact .inr ⟨a, b⟩
theorem reach_rb {es : List Edge} {n : Nat} (hE : ∀ e ∈ es, e.1 < n ∧ e.2 < n) {x y : Nat} (h : Reach es x y) : RB es n x y = true := by
  induction h with
  | refl => simpa using rb_le (es := es) (n := 0) (x := x) (y := x) (by simp [RB]) n
  | @step y z h q ih =>
    have e : RB es n y z = true := by simpa using rb_le (es := es) (n := 0) (x := y) (y := z) (by simp [RB, q]) n
    exact rb_through (hE _ q).1 ih e
theorem rb_iff {es : List Edge} {n : Nat} (hE : ∀ e ∈ es, e.1 < n ∧ e.2 < n) {x y : Nat} : RB es n x y = true ↔ Reach es x y := ⟨rb_reach es n, reach_rb hE⟩
theorem rb_same {es fs : List Edge} {n : Nat} (hE : ∀ e ∈ es, e.1 < n ∧ e.2 < n) (h : ∀ e, e ∈ es ↔ e ∈ fs) (x y : Nat) : RB es n x y = RB fs n x y := by
  have hF : ∀ e ∈ fs, e.1 < n ∧ e.2 < n := fun e he => hE e ((h e).mpr he)
  have : RB es n x y = true ↔ RB fs n x y = true := (rb_iff hE).trans (Iff.trans ⟨Reach.mono fun e => (h e).mp, Reach.mono fun e => (h e).mpr⟩ (rb_iff hF).symm)
  cases a : RB es n x y <;> cases b : RB fs n x y <;> simp_all
/-! bits -/
/-- the number with the bits of f below n -/
def mk : Nat → (Nat → Bool) → Nat
  | 0, _ => 0
  | n + 1, f => mk n f + (if f n then 2 ^ n else 0)
theorem mk_lt : ∀ (n : Nat) (f : Nat → Bool), mk n f < 2 ^ n
  | 0, _ => by simp [mk]
  | n + 1, f => by
    have := mk_lt n f
    unfold mk
    rw [Nat.pow_succ]
    split <;> omega
theorem mk_bit : ∀ (n : Nat) (f : Nat → Bool) (i : Nat), (mk n f).testBit i = (decide (i < n) && f i)
  | 0, f, i => by simp [mk]
  | n + 1, f, i => by
    unfold mk
    have h := mk_lt n f
    by_cases hf : f n = true
    · rw [if_pos hf, Nat.add_comm]
      by_cases hi : i < n
      · rw [Nat.testBit_two_pow_add_gt hi, mk_bit n f i]
        simp [hi, Nat.lt_succ_of_lt hi]
      · by_cases he : i = n
        · subst he
          rw [Nat.testBit_two_pow_add_eq, Nat.testBit_lt_two_pow h]
          simp [hf]
        · have : 2 ^ n + mk n f < 2 ^ i := by
            have : 2 ^ (n + 1) ≤ 2 ^ i := Nat.pow_le_pow_right (by decide) (by omega)
            rw [Nat.pow_succ] at this
            omega
          rw [Nat.testBit_lt_two_pow this]
          simp; intro; omega
    · rw [if_neg hf, Nat.add_zero, mk_bit n f i]
      by_cases he : i = n
      · subst he; simp [hf]
      · have : decide (i < n) = decide (i < n + 1) := by simp; omega
        rw [this]
theorem mk_eq {n : Nat} {f g : Nat → Bool} (h : ∀ i, i < n → f i = g i) : mk n f = mk n g := by
  apply Nat.eq_of_testBit_eq
  intro i
  rw [mk_bit, mk_bit]
  by_cases hi : i < n
  · simp [hi, h i hi]
  · simp [hi]
theorem mk_or {n : Nat} {f g : Nat → Bool} : mk n f ||| mk n g = mk n fun i => f i || g i := by
  apply Nat.eq_of_testBit_eq
  intro i
  rw [Nat.testBit_or, mk_bit, mk_bit, mk_bit]
  by_cases hi : i < n <;> simp [hi]
theorem mk_one {n y : Nat} (h : y < n) : 2 ^ y = mk n fun i => i == y := by
  apply Nat.eq_of_testBit_eq
  intro i
  rw [mk_bit, Nat.testBit_two_pow]
  by_cases hi : i < n
  · by_cases e : y = i
    · subst e; simp [hi]
    · have e' : ¬ i = y := fun z => e z.symm
      simp [e, e']
  · simp [hi]; omega
theorem mk_get {n : Nat} {f : Nat → Bool} {m : Nat} (h : m < n) : mk n f / 2 ^ m % 2 = if f m then 1 else 0 := by
  have := mk_bit n f m
  rw [Nat.testBit_eq_decide_div_mod_eq] at this
  simp [h] at this
  by_cases hf : f m = true
  · simp [hf] at this ⊢; exact this
  · simp [hf] at this ⊢; omega
theorem mk_add : ∀ {n : Nat} {f g : Nat → Bool}, (∀ i, i < n → f i = true → g i = true → False) → mk n (fun i => f i || g i) = mk n f + mk n g
  | 0, _, _, _ => rfl
  | n + 1, f, g, h => by
    have ih := mk_add (n := n) (f := f) (g := g) fun i hi => h i (Nat.lt_succ_of_lt hi)
    have hn := h n (Nat.lt_succ_self n)
    unfold mk
    rw [ih]
    generalize 2 ^ n = p
    cases a : f n <;> cases b : g n
    · simp [a, b]
    · simp [a, b, Nat.add_assoc]
    · simp [a, b]; omega
    · exact (hn a b).elim
/-- sums of different powers -/
theorem sum_pows : ∀ {l : List Nat} {n : Nat}, l.Nodup → (∀ y ∈ l, y < n) → (l.map fun y => 2 ^ y).sum = mk n fun i => l.contains i
  | [], n, _, _ => by
    apply Nat.eq_of_testBit_eq
    intro i
    rw [mk_bit]; simp
  | y :: l, n, nd, h => by
    obtain ⟨n1, n2⟩ := List.nodup_cons.mp nd
    rw [List.map_cons, List.sum_cons, sum_pows n2 fun z hz => h z (List.mem_cons_of_mem _ hz)]
    have hy := h y List.mem_cons_self
    rw [mk_one hy, ← mk_add]
    · apply mk_eq
      intro i _
      rw [List.contains_cons]
    · intro i _ h1 h2
      have e : i = y := by simpa using h1
      subst e
      exact n1 (by simpa using h2)
end PV
end
section
set_option Elab.async false
set_option linter.all false
set_option maxRecDepth 100000
set_option maxHeartbeats 4000000
/-! a walk in breadth, as the law does it -/
namespace PV
open PySem
def addTo (cur : Nat) (met : List Nat) (e : Edge) : List Nat := if e.1 = cur ∧ e.2 ∉ met then met ++ [e.2] else met
def innerL (cur : Nat) (es : List Edge) (met : List Nat) : List Nat := es.foldl (addTo cur) met
def outerL (es : List Edge) (met : List Nat) (i : Nat) : List Nat := match met[i]? with
  | some c => innerL c es met
  | none => met
structure Walk (es : List Edge) (n start : Nat) (met : List Nat) : Prop where
  nd : met.Nodup
  has : start ∈ met
  ok : ∀ y ∈ met, Reach es start y ∧ y < n
theorem addTo_pre {cur : Nat} {met : List Nat} {e : Edge} : ∃ ext, addTo cur met e = met ++ ext := by
  unfold addTo
  split
  · exact ⟨_, rfl⟩
  · exact ⟨[], by simp⟩
theorem innerL_pre {cur : Nat} : ∀ {es : List Edge} {met : List Nat}, ∃ ext, innerL cur es met = met ++ ext
  | [], met => ⟨[], by simp [innerL]⟩
  | e :: es, met => by
    obtain ⟨a, ha⟩ := addTo_pre (cur := cur) (met := met) (e := e)
    obtain ⟨b, hb⟩ := innerL_pre (cur := cur) (es := es) (met := addTo cur met e)
    refine ⟨a ++ b, ?_⟩
    show innerL cur es (addTo cur met e) = _
    rw [hb, ha, List.append_assoc]
theorem innerL_all {cur : Nat} : ∀ {es : List Edge} {met : List Nat} {y : Nat}, (cur, y) ∈ es → y ∈ innerL cur es met
  | e :: es, met, y, h => by
    show y ∈ innerL cur es (addTo cur met e)
    rcases List.mem_cons.mp h with h | h
    · obtain ⟨b, hb⟩ := innerL_pre (cur := cur) (es := es) (met := addTo cur met e)
      rw [hb]
      refine List.mem_append_left _ ?_
      subst h
      unfold addTo
      by_cases q : y ∈ met
      · rw [if_neg (by simp [q])]; exact q
      · rw [if_pos ⟨rfl, q⟩]; simp
    · exact innerL_all h
theorem innerL_walk {all : List Edge} {n start cur : Nat} (hE : ∀ e ∈ all, e.1 < n ∧ e.2 < n) : ∀ {es : List Edge} {met : List Nat}, (∀ e ∈ es, e ∈ all) → Reach all start cur → Walk all n start met → Walk all n start (innerL cur es met)
  | [], met, _, _, w => w
  | e :: es, met, hs, hc, w => by
    refine innerL_walk (es := es) (met := addTo cur met e) hE (fun f hf => hs f (List.mem_cons_of_mem _ hf)) hc ?_
    unfold addTo
    split
    · rename_i h
      have he := hs e List.mem_cons_self
      refine ⟨?_, List.mem_append_left _ w.has, fun y hy => ?_⟩
      · rw [List.nodup_append]
        refine ⟨w.nd, by simp, fun a ha b hb => ?_⟩
        rw [List.mem_singleton] at hb
        subst hb
        rintro rfl
        exact h.2 ha
      · rcases List.mem_append.mp hy with hy | hy
        · exact w.ok y hy
        · rw [List.mem_singleton] at hy
          subst hy
          refine ⟨hc.step (by rw [← h.1]; exact he), (hE e he).2⟩
    · exact w
theorem outerL_walk {es : List Edge} {n start : Nat} (hE : ∀ e ∈ es, e.1 < n ∧ e.2 < n) {met : List Nat} {i : Nat} (w : Walk es n start met) : Walk es n start (outerL es met i) := by
  unfold outerL
  split
  · rename_i c e
    exact innerL_walk hE (fun _ h => h) (w.ok c (List.mem_of_getElem? e)).1 w
  · exact w
/-- closed so far -/
def Clo (es : List Edge) (k : Nat) (met : List Nat) : Prop := ∀ j c y, j < k → met[j]? = some c → (c, y) ∈ es → y ∈ met
theorem outerL_clo {es : List Edge} {met : List Nat} {k : Nat} (h : Clo es k met) : Clo es (k + 1) (outerL es met k) := by
  unfold outerL
  split
  · rename_i c0 e0
    obtain ⟨ext, hx⟩ := innerL_pre (cur := c0) (es := es) (met := met)
    have hk : k < met.length := (List.getElem?_eq_some_iff.mp e0).1
    intro j c y hj hc hy
    have old : met[j]? = some c := by
      rw [hx, List.getElem?_append_left (by omega)] at hc
      exact hc
    by_cases e : j = k
    · subst e
      rw [e0] at old; cases old
      exact innerL_all hy
    · rw [hx]
      exact List.mem_append_left _ (h j c y (by omega) old hy)
  · rename_i e0
    intro j c y hj hc hy
    have hk : met.length ≤ k := List.getElem?_eq_none_iff.mp e0
    have hj2 : j < met.length := (List.getElem?_eq_some_iff.mp hc).1
    exact h j c y (by omega) hc hy
theorem nodup_len : ∀ {n : Nat} {l : List Nat}, l.Nodup → (∀ y ∈ l, y < n) → l.length ≤ n
  | 0, l, _, h => by
    cases l with
    | nil => exact Nat.le_refl _
    | cons a l => exact absurd (h a List.mem_cons_self) (Nat.not_lt_zero _)
  | n + 1, l, nd, h => by
    have ih := nodup_len (n := n) (l := l.erase n) (nd.erase n) fun y hy => by
      have q := (nd.mem_erase_iff).mp hy
      have := h y q.2
      omega
    by_cases hn : n ∈ l
    · rw [List.length_erase_of_mem hn] at ih
      omega
    · rw [List.erase_of_not_mem hn] at ih
      omega
/-- the walk has met just what can be reached -/
theorem walk_full {es : List Edge} {n start : Nat} {met : List Nat} (w : Walk es n start met) (c : Clo es n met) (y : Nat) : y ∈ met ↔ Reach es start y := by
  refine ⟨fun h => (w.ok y h).1, fun h => ?_⟩
  have hl := nodup_len w.nd fun y hy => (w.ok y hy).2
  induction h with
  | refl => exact w.has
  | step _ q ih =>
    obtain ⟨j, hj, e⟩ := List.mem_iff_getElem.mp ih
    exact c j _ _ (by omega) (by rw [List.getElem?_eq_getElem hj, e]) q
end PV
end
section
set_option Elab.async false
set_option linter.all false
set_option maxRecDepth 100000
set_option maxHeartbeats 4000000
namespace PV
open PySem L2
def b_steps_of : DSt :=
  (sSeq (sSet 1 (eLst aNil))
    (sSeq (sFor (iSlot 0) (gT 3 (gCs (gN 2) (gCs (gN 3) (gCs (gN 4) gNl)))) (sSeq (sIf (tB (eOp oNe (eVar 3) (eC (.str "ne")))) (sEx (eMut 1 mApp (aCons (eTup (aCons (eVar 2) (aCons (eVar 4) aNil))) aNil))) sNil)
    (sIf (tB (eOp oEq (eVar 3) (eC (.str "eq")))) (sEx (eMut 1 mApp (aCons (eTup (aCons (eVar 4) (aCons (eVar 2) aNil))) aNil))) sNil)))
    (sRet [0] (eVar 1))))
@[irreducible] def m_steps_of : DSp := runF [true] 4 b_steps_of
def b_reach : DSt :=
  (sSeq (sSet 2 (eLc (iRange1 (aCons (eVar 0) aNil)) [3] (gN 3) tTrue (eFz (eOp oShl (eC (.int 1)) (eVar 3)))))
    (sSeq (sFor (iFz (eCall m_steps_of 1 [true] (aCons (eVar 1) aNil))) (gT 2 (gCs (gN 4) (gCs (gN 5) gNl))) (sSetIx 2 (eOp oOr (eIx (eVar 2) (eVar 4)) (eOp oShl (eC (.int 1)) (eVar 5))) (eVar 4)))
    (sSeq (sFor (iRange1 (aCons (eVar 0) aNil)) (gN 6) (sFor (iRange1 (aCons (eVar 0) aNil)) (gN 4) (sIf (tTr (eOp oAnd (eOp oShr (eIx (eVar 2) (eVar 4)) (eVar 6)) (eC (.int 1)))) (sSetIx 2 (eOp oOr (eIx (eVar 2) (eVar 4)) (eIx (eVar 2) (eVar 6))) (eVar 4)) sNil)))
    (sRet [0, 1] (eBi cTuple (aCons (eVar 2) aNil))))))
@[irreducible] def m_reach : DSp := runF [true, true] 5 b_reach
def b_is_tied : DSt :=
  (sRet [0, 1, 2] (eAnd (eOp oEq (eOp oAnd (eOp oShr (eIx (eVar 0) (eVar 1)) (eVar 2)) (eC (.int 1))) (eC (.int 1))) (eOp oEq (eOp oAnd (eOp oShr (eIx (eVar 0) (eVar 2)) (eVar 1)) (eC (.int 1))) (eC (.int 1)))))
@[irreducible] def m_is_tied : DSp := runF [true, true, true] 0 b_is_tied
def b_stands : DSt :=
  (sSeq (sSet 2 (eCall m_reach 2 [true, true] (aCons (eVar 0) (aCons (eVar 1) aNil))))
    (sRet [0, 1] (eBi cTuple (aCons (eLc (iRange1 (aCons (eVar 0) aNil)) [4] (gN 4) tTrue (eFz (eBi cMin (aCons (eLc (iRange1 (aCons (eVar 0) aNil)) [3] (gN 3) (tTr (eCall m_is_tied 3 [true, true, true] (aCons (eVar 2) (aCons (eVar 3) (aCons (eVar 4) aNil))))) (eFz (eVar 3))) aNil)))) aNil))))
@[irreducible] def m_stands : DSp := runF [true, true] 3 b_stands
def b_L_steps : DSt :=
  (sRet [0] (eOp oAdd (eLc (iSlot 0) [1, 2, 3] (gT 3 (gCs (gN 1) (gCs (gN 2) (gCs (gN 3) gNl)))) (tB (eOp oNe (eVar 2) (eC (.str "ne")))) (eFz (eTup (aCons (eVar 1) (aCons (eVar 3) aNil))))) (eLc (iSlot 0) [1, 2, 3] (gT 3 (gCs (gN 1) (gCs (gN 2) (gCs (gN 3) gNl)))) (tB (eOp oEq (eVar 2) (eC (.str "eq")))) (eFz (eTup (aCons (eVar 3) (aCons (eVar 1) aNil)))))))
@[irreducible] def m_L_steps : DSp := runF [true] 3 b_L_steps
end PV
end
section
set_option Elab.async false
set_option linter.all false
set_option maxRecDepth 100000
set_option maxHeartbeats 4000000
namespace PV
open PySem L2
local macro_rules | `(tactic| walk_at "w") => `(tactic| (conv => whnf))
def opS : Op4 → Str
  | .lt => "lt"
  | .le => "le"
  | .eq => "eq"
  | .ne => "ne"
theorem opS_inj {a b : Op4} : opS a = opS b ↔ a = b := by
  constructor
  · intro h
    have : decide (opS a = opS b) = true := decide_eq_true h
    revert this
    cases a <;> cases b <;> decide
  · rintro rfl; rfl
theorem eqv_op (a b : Op4) : PyData.eqv (.str (opS a)) (.str (opS b)) = decide (a = b) := by
  rw [eqv_str]
  exact decide_eq_decide.mpr opS_inj
abbrev ruleD (r : Rule) : D := .tuple [.int r.x, .str (opS r.op), .int r.y]
abbrev pairD (e : Edge) : D := .tuple [.int e.1, .int e.2]
theorem stepsOf_snoc (rs : List Rule) (r : Rule) : stepsOf (rs ++ [r]) = stepsOf rs ++ ((if r.op = .ne then [] else [(r.x, r.y)]) ++ (if r.op = .eq then [(r.y, r.x)] else [])) := by
  induction rs with
  | nil => simp [stepsOf]
  | cons a rs ih => simp only [List.cons_append, stepsOf, ih, List.append_assoc]
theorem stepsOf_len (rs : List Rule) : (stepsOf rs).length ≤ 2 * rs.length := by
  induction rs with
  | nil => simp [stepsOf]
  | cons r rs ih =>
    unfold stepsOf
    rw [List.length_append, List.length_append, List.length_cons]
    split <;> split <;> simp <;> omega
theorem steps_of_ok {rs : List Rule} (h : rs.length ≤ 1000000) {Q : Ev → List Sl → Prop} (k : Q (.fresh (.list ((stepsOf rs).map pairD))) [.fz (.tuple (rs.map ruleD))]) : m_steps_of [.fz (.tuple (rs.map ruleD))] Q := by
  unfold m_steps_of b_steps_of
  walk_at "w"
  refine forGo_inv (fun pre post ds => ∃ done rest : List Rule, post = rest.map ruleD ∧ rs = done ++ rest ∧ ∃ s2 s3 s4, ds = [.fz (.tuple (rs.map ruleD)), .ow (.list ((stepsOf done).map pairD)), s2, s3, s4]) (fun {pre post ds P} _ p => p) ?_ ?_ (pre := []) ⟨[], rs, rfl, rfl, _, _, _, rfl⟩
  · rintro pre x post ds N ⟨done, rest, hp, hd, s2, s3, s4, rfl⟩ hN
    cases rest with
    | nil => simp at hp
    | cons r rest =>
      rw [List.map_cons] at hp
      injection hp with hp1 hp2
      subst hp1
      have hl : (stepsOf done).length ≤ 2000000 := by
        have := stepsOf_len done
        have := congrArg List.length hd
        rw [List.length_append] at this
        omega
      have hN' : ∀ {l : List D} {s2 s3 s4 : Sl}, l = (stepsOf (done ++ [r])).map pairD → N [.fz (.tuple (rs.map ruleD)), .ow (.list l), s2, s3, s4] := fun {l s2 s3 s4} e => hN _ ⟨done ++ [r], rest, hp2, by rw [hd]; simp, s2, s3, s4, by rw [e]⟩
      rw [stepsOf_snoc] at hN'
      obtain ⟨x, op, y⟩ := r
      walk_at "w"
      refine oNe_i (!decide (op = .ne)) ?_ ?_ ?_
      · exact congrArg (fun b => !b) (eqv_op op .ne)
      · simp [depth_str]
      cases op
      · walk_at "w"
        refine ⟨by rw [List.length_map]; omega, ?_⟩
        walk_at "w"
        refine oEq_i false ?_ ?_ ?_
        · exact eqv_op _ .eq
        · simp [depth_str]
        walk_at "w"
        exact hN' (by simp)
      · walk_at "w"
        refine ⟨by rw [List.length_map]; omega, ?_⟩
        walk_at "w"
        refine oEq_i false ?_ ?_ ?_
        · exact eqv_op _ .eq
        · simp [depth_str]
        walk_at "w"
        exact hN' (by simp)
      · walk_at "w"
        refine ⟨by rw [List.length_map]; omega, ?_⟩
        walk_at "w"
        refine oEq_i true ?_ ?_ ?_
        · exact eqv_op _ .eq
        · simp [depth_str]
        walk_at "w"
        refine ⟨by rw [List.length_append, List.length_map]; simp; omega, ?_⟩
        exact hN' (by simp)
      · walk_at "w"
        refine oEq_i false ?_ ?_ ?_
        · exact eqv_op _ .eq
        · simp [depth_str]
        walk_at "w"
        exact hN' (by simp)
  · rintro pre ds ⟨done, rest, hp, hd, s2, s3, s4, rfl⟩
    have : rest = [] := by cases rest with | nil => rfl | cons r rest => simp at hp
    subst this
    rw [List.append_nil] at hd
    subst hd
    exact k
end PV
end
section
set_option Elab.async false
set_option linter.all false
set_option maxRecDepth 100000
set_option maxHeartbeats 4000000
namespace PV
open PySem L2
local macro_rules | `(tactic| walk_at "w") => `(tactic| (conv => whnf))
/-- the masks of a relation -/
def mlist (n : Nat) (f : Nat → Nat → Bool) : List D := (List.range n).map fun x => .int ((mk n (f x) : Nat) : Int)
theorem mlist_len {n : Nat} {f : Nat → Nat → Bool} : (mlist n f).length = n := by simp [mlist]
theorem mlist_get {n : Nat} {f : Nat → Nat → Bool} {x : Nat} (h : x < n) : (mlist n f)[x]? = some (.int ((mk n (f x) : Nat) : Int)) := by
  simp [mlist, h]
theorem mlist_eq {n : Nat} {f g : Nat → Nat → Bool} (h : ∀ x y, x < n → y < n → f x y = g x y) : mlist n f = mlist n g := by
  unfold mlist
  apply List.map_congr_left
  intro x hx
  rw [mk_eq fun i hi => h x i (List.mem_range.mp hx) hi]
theorem mlist_set {n : Nat} {f : Nat → Nat → Bool} {x : Nat} {g : Nat → Bool} : (mlist n f).set x (.int ((mk n g : Nat) : Int)) = mlist n fun i => if i = x then g else f i := by
  unfold mlist
  apply List.ext_getElem?
  intro i
  by_cases hi : x = i
  · subst hi
    by_cases hx : x < n
    · rw [List.getElem?_set_self (by simpa using hx)]
      simp [hx]
    · rw [List.getElem?_eq_none (by simp; omega), List.getElem?_eq_none (by simp; omega)]
  · rw [List.getElem?_set_ne hi]
    by_cases hx : i < n
    · have : ¬ i = x := fun z => hi z.symm
      simp [hx, this]
    · rw [List.getElem?_eq_none (by simp; omega), List.getElem?_eq_none (by simp; omega)]
theorem shl_nat (y : Nat) : (1 : Int) * 2 ^ (Int.toNat (y : Int)) = ((2 ^ y : Nat) : Int) := by
  rw [Int.one_mul, Int.toNat_natCast, Int.natCast_pow]; rfl
theorem or_nat (a b : Nat) : Builtin.bitOr (a : Int) (b : Int) = ((a ||| b : Nat) : Int) := by
  rw [Bits.bitOr_pp (Int.natCast_nonneg a) (Int.natCast_nonneg b), Int.toNat_natCast, Int.toNat_natCast]
theorem bit_nat {n : Nat} {f : Nat → Bool} {m : Nat} (h : m < n) : Builtin.bitAnd (((mk n f : Nat) : Int) / 2 ^ (Int.toNat (m : Int))) 1 = if f m then 1 else 0 := by
  rw [PyProof.Rows.bitAnd_m1, Int.toNat_natCast]
  have : ((mk n f : Nat) : Int) / 2 ^ m % 2 = ((mk n f / 2 ^ m % 2 : Nat) : Int) := by
    rw [Int.natCast_emod, Int.natCast_ediv, Int.natCast_pow]; rfl
  rw [this, mk_get h]
  split <;> rfl
theorem atD_nat {α : Type} {xs : List α} {j : Nat} {Q : α → Prop} {x : α} (h : xs[j]? = some x) (q : Q x) : atD xs (j : Int) Q := atD_i (Int.natCast_nonneg j) (by rw [Int.toNat_natCast]; exact h) q
def edgesLt (n : Nat) (es : List Edge) : Prop := ∀ e ∈ es, e.1 < n ∧ e.2 < n
/-- the relation after some edges -/
def RE (es : List Edge) (x y : Nat) : Bool := (x == y) || es.contains (x, y)
theorem RE_snoc (es : List Edge) (a b x : Nat) : RE (es ++ [(a, b)]) x = if x = a then fun i => RE es x i || (i == b) else RE es x := by
  funext y
  unfold RE
  by_cases h : x = a
  · subst h
    simp only [if_true, List.contains_append, List.contains_cons, List.contains_nil, Bool.or_false, Bool.or_assoc]
    rw [show ((x, y) == (x, b)) = (x == x && y == b) from rfl, beq_self_eq_true, Bool.true_and]
  · simp [h]
/-- within a stage -/
def RS (es : List Edge) (k j x y : Nat) : Bool := if x < j then RB es (k + 1) x y else RB es k x y
theorem reach_ok {n : Nat} {rs : List Rule} (hn : n ≤ 1000) (h : rs.length ≤ 1000000) (hE : edgesLt n (stepsOf rs)) {Q : Ev → List Sl → Prop} (k : Q (.val (.tuple (mlist n (RB (stepsOf rs) n)))) [.fz (.int (n : Int)), .fz (.tuple (rs.map ruleD))]) :
    m_reach [.fz (.int (n : Int)), .fz (.tuple (rs.map ruleD))] Q := by
  unfold m_reach b_reach
  walk_at "w"
  refine ⟨⟨by omega, by omega⟩, ?_⟩
  walk_at "w"
  have hbnd : bnd62 (n : Int) := ⟨by omega, by omega⟩
  refine lcGo_map (all := rngD 0 (n : Int).toNat) (fun d => match d with | .int i => .int (1 * 2 ^ i.toNat) | d => d) (fun x hx N hN => ?_) (fun _ h => h) (by simp [rngD]; omega) ?_
  · obtain ⟨j, hj, rfl⟩ := List.mem_map.mp hx
    have hj : j < n := by simpa using hj
    walk_at "w"
    exact ⟨⟨by omega, by omega, by decide⟩, hN _ rfl⟩
  have e0 : ((rngD 0 (n : Int).toNat).map fun d => match d with | .int i => PyData.int (1 * 2 ^ i.toNat) | d => d) = mlist n (RE []) := by
    unfold rngD mlist
    rw [List.map_map, Int.toNat_natCast]
    apply List.map_congr_left
    intro x hx
    show PyData.int (1 * 2 ^ (0 + (x : Int)).toNat) = _
    rw [Int.zero_add, shl_nat, mk_one (List.mem_range.mp hx)]
    congr 2
    apply mk_eq
    intro i _
    by_cases q : i = x
    · subst q; simp [RE]
    · simp only [RE, List.contains_nil, Bool.or_false]
      exact BEq.comm
  rw [e0]
  walk_at "w"
  -- the edges
  refine steps_of_ok h ?_
  walk_at "w"
  have hes : (stepsOf rs).length ≤ 2 * rs.length := stepsOf_len rs
  generalize hes' : stepsOf rs = es at *
  refine forGo_inv (fun pre post ds => ∃ done rest : List Edge, post = rest.map pairD ∧ es = done ++ rest ∧ ∃ s3 s4 s5 s6, ds = [.fz (.int (n : Int)), .fz (.tuple (rs.map ruleD)), .ow (.list (mlist n (RE done))), s3, s4, s5, s6]) (fun {pre post ds P} _ p => p) ?_ ?_ (pre := []) ⟨[], es, rfl, rfl, .no, .no, .no, .no, rfl⟩
  · rintro pre x post ds N ⟨done, rest, hp, hd, s3, s4, s5, s6, rfl⟩ hN
    cases rest with
    | nil => simp at hp
    | cons e rest =>
      rw [List.map_cons] at hp
      injection hp with hp1 hp2
      subst hp1
      obtain ⟨a, b⟩ := e
      obtain ⟨ha, hb⟩ : a < n ∧ b < n := hE (a, b) (by rw [hd]; simp)
      walk_at "w"
      refine atD_nat (mlist_get (f := RE done) ha) ?_
      walk_at "w"
      refine ⟨⟨Int.natCast_nonneg _, by omega, by decide⟩, ?_⟩
      walk_at "w"
      refine ixD_nat (by rw [mlist_len]; exact ha) ?_
      have hN' : ∀ {l : List D} {s3 s4 s5 s6 : Sl}, l = mlist n (RE (done ++ [(a, b)])) → N [.fz (.int (n : Int)), .fz (.tuple (rs.map ruleD)), .ow (.list l), s3, s4, s5, s6] := fun {l s3 s4 s5 s6} e => hN _ ⟨done ++ [(a, b)], rest, hp2, by rw [hd]; simp, s3, s4, s5, s6, by rw [e]⟩
      have e1 : (mlist n (RE done)).set a (.int (Builtin.bitOr ((mk n (RE done a) : Nat) : Int) (1 * 2 ^ (Int.toNat (b : Int))))) = mlist n (RE (done ++ [(a, b)])) := by
        rw [shl_nat, or_nat, mk_one hb, mk_or, mlist_set]
        apply mlist_eq
        intro i j _ _
        rw [RE_snoc]
        by_cases q : i = a
        · subst q; rfl
        · rw [if_neg q, if_neg q]
      exact hN' e1
  · rintro pre ds ⟨done, rest, hp, hd, s3, s4, s5, s6, rfl⟩
    have : rest = [] := by cases rest with | nil => rfl | cons r rest => simp at hp
    subst this
    rw [List.append_nil] at hd
    subst hd
    walk_at "w"
    refine ⟨hbnd, ?_⟩
    -- the stages
    refine forGo_rng (fun k ds => ∃ s3 s4 s5 s6, ds = [.fz (.int (n : Int)), .fz (.tuple (rs.map ruleD)), .ow (.list (mlist n (RB es k))), s3, s4, s5, s6]) ⟨s3, s4, s5, s6, rfl⟩ ?_ ?_
    · rintro m ds N hm ⟨s3, s4, s5, s6, rfl⟩ hN
      have hm : m < n := by simpa using hm
      walk_at "w"
      refine ⟨hbnd, ?_⟩
      refine forGo_rng (fun j ds => ∃ s3 s4 s5, ds = [.fz (.int (n : Int)), .fz (.tuple (rs.map ruleD)), .ow (.list (mlist n (RS es m j))), s3, s4, s5, .fz (.int (0 + (m : Int)))]) ⟨s3, s4, s5, ?_⟩ ?_ ?_
      · have : mlist n (RS es m 0) = mlist n (RB es m) := mlist_eq fun x y _ _ => by simp [RS]
        rw [this]
        rfl
      · rintro j ds N2 hj ⟨s3, s4, s5, rfl⟩ hN2
        have hj : j < n := by simpa using hj
        have ej : (0 : Int) + (j : Int) = (j : Int) := Int.zero_add _
        have em : (0 : Int) + (m : Int) = (m : Int) := Int.zero_add _
        rw [ej, em]
        walk_at "w"
        refine atD_nat (mlist_get (f := RS es m j) hj) ?_
        walk_at "w"
        refine ⟨Int.natCast_nonneg _, ?_⟩
        have hf : RS es m j j = RB es m j := by funext y; simp [RS]
        refine br_i (fun hb => ?_) (fun hb => ?_)
        · have hb : (Builtin.bitAnd (((mk n (RS es m j j) : Nat) : Int) / 2 ^ (Int.toNat (m : Int))) 1 != 0) = true := hb
          rw [bit_nat hm, hf] at hb
          have hb : RB es m j m = true := by
            by_cases q : RB es m j m = true
            · exact q
            · rw [if_neg q] at hb; exact absurd hb (by decide)
          walk_at "w"
          refine atD_nat (mlist_get (f := RS es m j) hj) ?_
          walk_at "w"
          refine atD_nat (mlist_get (f := RS es m j) hm) ?_
          walk_at "w"
          refine ixD_nat (by rw [mlist_len]; exact hj) ?_
          have hN' : ∀ {l : List D} {s3 s4 s5 : Sl}, l = mlist n (RS es m (j + 1)) → N2 [.fz (.int (n : Int)), .fz (.tuple (rs.map ruleD)), .ow (.list l), s3, s4, s5, .fz (.int (m : Int))] := fun {l s3 s4 s5} e => hN2 _ ⟨s3, s4, s5, by rw [e, em]⟩
          have e1 : (mlist n (RS es m j)).set j (.int (Builtin.bitOr ((mk n (RS es m j j) : Nat) : Int) ((mk n (RS es m j m) : Nat) : Int))) = mlist n (RS es m (j + 1)) := by
            rw [or_nat, mk_or, mlist_set]
            apply mlist_eq
            intro x y _ _
            have hrow : RS es m j m y = RB es m m y := by
              unfold RS
              split
              · simp [RB]
              · rfl
            by_cases hx : x = j
            · subst hx
              rw [if_pos rfl, hf, hrow]
              simp [RS, RB, hb]
            · rw [if_neg hx]
              unfold RS
              by_cases q : x < j
              · rw [if_pos q, if_pos (by omega)]
              · rw [if_neg q, if_neg (by omega)]
          exact hN' e1
        · have hb : (Builtin.bitAnd (((mk n (RS es m j j) : Nat) : Int) / 2 ^ (Int.toNat (m : Int))) 1 != 0) = false := hb
          rw [bit_nat hm, hf] at hb
          have hb : RB es m j m = false := by
            by_cases q : RB es m j m = true
            · rw [if_pos q] at hb; exact absurd hb (by decide)
            · simpa using q
          have hN' : ∀ {l : List D} {s3 s4 s5 : Sl}, l = mlist n (RS es m (j + 1)) → N2 [.fz (.int (n : Int)), .fz (.tuple (rs.map ruleD)), .ow (.list l), s3, s4, s5, .fz (.int (m : Int))] := fun {l s3 s4 s5} e => hN2 _ ⟨s3, s4, s5, by rw [e, em]⟩
          have e1 : mlist n (RS es m j) = mlist n (RS es m (j + 1)) := by
            apply mlist_eq
            intro x y _ _
            unfold RS
            by_cases hx : x = j
            · subst hx
              rw [if_neg (by omega), if_pos (by omega)]
              simp [RB, hb]
            · by_cases q : x < j
              · rw [if_pos q, if_pos (by omega)]
              · rw [if_neg q, if_neg (by omega)]
          exact hN' e1
      · rintro ds ⟨s3, s4, s5, rfl⟩
        have : mlist n (RS es m (n : Int).toNat) = mlist n (RB es (m + 1)) := mlist_eq fun x y hx _ => by simp [RS, hx]
        exact hN _ ⟨s3, s4, s5, .fz (.int (0 + (m : Int))), by rw [this]⟩
    · rintro ds ⟨s3, s4, s5, s6, rfl⟩
      rw [Int.toNat_natCast]
      exact k
end PV
end
section
set_option Elab.async false
set_option linter.all false
set_option maxRecDepth 100000
set_option maxHeartbeats 4000000
namespace PV
open PySem L2
local macro_rules | `(tactic| walk_at "w") => `(tactic| (conv => whnf))
/-- a comprehension with a test: filter, then map; the slots are left -/
theorem lcGo_fm {ok : DS → Prop → Prop} {vs : List Nat} {g : DG} {tt : DT} {te : DF} {all : List D} {Q : List D → DS → Prop} {ds : DS} (p : D → Bool) (f : D → D) (hok : ∀ P, P → ok ds P)
    (h : ∀ x ∈ all, ∀ (A : D → DS → Prop) (B : DS → Prop), (p x = true → ∀ ds', rstD ds vs ds' = ds → A (f x) ds') → (p x = false → ∀ ds', rstD ds vs ds' = ds → B ds') → g x (wipD ds vs) fun ds1 => tt ds1 fun b ds2 => br b (te ds2 A) (B ds2)) :
    ∀ {xs acc : List D}, (∀ x ∈ xs, x ∈ all) → acc.length + xs.length ≤ 16777216 → Q (acc ++ (xs.filter p).map f) ds → lcGo ok vs g tt te xs acc ds Q
  | [], acc, _, _, q => by
    refine hok _ ?_
    rw [List.filter_nil, List.map_nil, List.append_nil] at q; exact q
  | x :: xs, acc, hm, hz, q => by
    rw [List.length_cons] at hz
    refine hok _ (h x (hm x List.mem_cons_self) _ _ (fun hp ds' e => ?_) (fun hp ds' e => ?_))
    · refine ⟨by omega, ?_⟩
      rw [e]
      exact lcGo_fm p f hok h (fun y hy => hm y (List.mem_cons_of_mem _ hy)) (by rw [List.length_append, List.length_singleton]; omega) (by rw [List.filter_cons_of_pos hp, List.map_cons] at q; rw [List.append_assoc]; exact q)
    · rw [e]
      exact lcGo_fm p f hok h (fun y hy => hm y (List.mem_cons_of_mem _ hy)) (by omega) (by rw [List.filter_cons_of_neg (by rw [hp]; exact Bool.false_ne_true)] at q; exact q)
theorem bitI {n : Nat} {f : Nat → Bool} {m : Nat} (h : m < n) : PyData.eqv (.int (Builtin.bitAnd (((mk n f : Nat) : Int) / 2 ^ (Int.toNat (m : Int))) 1)) (.int 1) = f m := by
  rw [bit_nat h, eqv_int]
  cases f m <;> decide
theorem is_tied_ok {n : Nat} {f : Nat → Nat → Bool} {x y : Nat} (hx : x < n) (hy : y < n) {Q : Ev → List Sl → Prop} (k : Q (.val (.bool (f x y && f y x))) [.fz (.tuple (mlist n f)), .fz (.int (x : Int)), .fz (.int (y : Int))]) :
    m_is_tied [.fz (.tuple (mlist n f)), .fz (.int (x : Int)), .fz (.int (y : Int))] Q := by
  unfold m_is_tied b_is_tied
  walk_at "w"
  refine atD_nat (mlist_get (f := f) hx) ?_
  walk_at "w"
  refine ⟨Int.natCast_nonneg _, ?_⟩
  walk_at "w"
  refine oEq_i (f x y) ?_ ?_ ?_
  · exact bitI hy
  · simp [depth_int]
  refine br_i (fun hb => ?_) (fun hb => ?_)
  · rw [hb, Bool.true_and] at k
    walk_at "w"
    refine atD_nat (mlist_get (f := f) hy) ?_
    walk_at "w"
    refine ⟨Int.natCast_nonneg _, ?_⟩
    walk_at "w"
    refine oEq_i (f y x) ?_ ?_ ?_
    · exact bitI hx
    · simp [depth_int]
    exact k
  · rw [hb, Bool.false_and] at k
    exact k
def natD (l : List Nat) : List D := l.map fun x : Nat => PyData.int (x : Int)
theorem rngD_nat (n : Nat) : rngD 0 n = natD (List.range n) := by
  unfold rngD natD
  apply List.map_congr_left
  intro x _
  show PyData.int (0 + (x : Int)) = _
  rw [Int.zero_add]
theorem natD_ints (l : List Nat) : natD l = (l.map fun x : Nat => (x : Int)).map PyData.int := by unfold natD; rw [List.map_map]; rfl
theorem mem_natD {l : List Nat} {d : D} (h : d ∈ natD l) : ∃ x ∈ l, d = .int (x : Int) := by
  obtain ⟨x, h1, h2⟩ := List.mem_map.mp h
  exact ⟨x, h1, h2.symm⟩
/-- the least of some nodes -/
def leastN (l : List Nat) : Int := leastI (l.map fun x : Nat => (x : Int))
theorem leastN_same {l m : List Nat} (h : ∀ x, x ∈ l ↔ x ∈ m) (h0 : l ≠ []) : leastN l = leastN m := by
  unfold leastN
  have h1 : l.map (fun x : Nat => (x : Int)) ≠ [] := by simpa using h0
  apply least_uniq
  · have := least_mem h1
    obtain ⟨x, hx, e⟩ := List.mem_map.mp this
    exact List.mem_map.mpr ⟨x, (h x).mp hx, e⟩
  · intro y hy
    obtain ⟨x, hx, rfl⟩ := List.mem_map.mp hy
    exact least_le (List.mem_map.mpr ⟨x, (h x).mpr hx, rfl⟩)
def tiedTo (n : Nat) (f : Nat → Nat → Bool) (y : Nat) : List Nat := (List.range n).filter fun x => f x y && f y x
def firstsD (n : Nat) (f : Nat → Nat → Bool) : List D := (List.range n).map fun y => .int (leastN (tiedTo n f y))
theorem filter_natD (p : Nat → Bool) (q : D → Bool) (l : List Nat) (h : ∀ x ∈ l, q (.int (x : Int)) = p x) : (natD l).filter q = natD (l.filter p) := by
  unfold natD
  rw [List.filter_map]
  congr 1
  apply List.filter_congr
  intro x hx
  exact h x hx
def nOf (d : D) : Nat := match d with
  | .int i => i.toNat
  | _ => 0
theorem stands_ok {n : Nat} {rs : List Rule} (hn : n ≤ 1000) (h : rs.length ≤ 1000000) (hE : edgesLt n (stepsOf rs)) {Q : Ev → List Sl → Prop} (k : Q (.val (.tuple (firstsD n (RB (stepsOf rs) n)))) [.fz (.int (n : Int)), .fz (.tuple (rs.map ruleD))]) :
    m_stands [.fz (.int (n : Int)), .fz (.tuple (rs.map ruleD))] Q := by
  unfold m_stands b_stands
  refine reach_ok hn h hE ?_
  generalize hF : RB (stepsOf rs) n = F at *
  have hrefl : ∀ y, y < n → F y y = true := fun y hy => by rw [← hF]; exact reach_rb hE (.refl _)
  have hbnd : bnd62 (n : Int) := ⟨by omega, by omega⟩
  walk_at "w"
  refine ⟨hbnd, ?_⟩
  rw [show (n : Int).toNat = n from Int.toNat_natCast n, rngD_nat]
  refine lcGo_fm (ds := [.fz (.int (n : Int)), .fz (.tuple (rs.map ruleD)), .fz (.tuple (mlist n F)), .no, .no]) (all := natD (List.range n)) (fun _ => true) (fun d => .int (leastN (tiedTo n F (nOf d)))) (fun P p => p) (fun d hd A B hA hB => ?_) (fun _ h => h) (by simp [natD]; omega) ?_
  · obtain ⟨y, hy, rfl⟩ := mem_natD hd
    have hy : y < n := by simpa using hy
    walk_at "w"
    refine ⟨hbnd, ?_⟩
    walk_at "w"
    refine lcGo_fm (ds := [.fz (.int (n : Int)), .fz (.tuple (rs.map ruleD)), .fz (.tuple (mlist n F)), .no, .fz (.int (y : Int))]) (all := rngD 0 (n : Int).toNat) (fun d => F (nOf d) y && F y (nOf d)) (fun d => d) (fun P p => p) (fun d hd A B hA hB => ?_) (fun _ h => h) (by simp [rngD]; omega) ?_
    · rw [show (n : Int).toNat = n from Int.toNat_natCast n, rngD_nat] at hd
      obtain ⟨x, hx, rfl⟩ := mem_natD hd
      have hx : x < n := by simpa using hx
      refine is_tied_ok hx hy ?_
      have e : (F (nOf (.int (x : Int))) y && F y (nOf (.int (x : Int)))) = (F x y && F y x) := by simp [nOf]
      rw [e] at hA hB
      refine br_i (fun hb => ?_) (fun hb => ?_)
      · exact hA hb _ rfl
      · exact hB hb _ rfl
    · rw [show (n : Int).toNat = n from Int.toNat_natCast n, rngD_nat, List.nil_append, List.map_id']
      rw [filter_natD (fun x => F x y && F y x) _ _ (fun x _ => by simp [nOf]), natD_ints]
      walk_at "w"
      refine intsOf_map.mpr ⟨?_, ?_⟩
      · have : y ∈ tiedTo n F y := by
          unfold tiedTo
          rw [List.mem_filter]
          exact ⟨List.mem_range.mpr hy, by simp [hrefl y hy]⟩
        intro e
        have e' : (tiedTo n F y).map (fun x : Nat => (x : Int)) = [] := e
        rw [List.map_eq_nil_iff] at e'
        rw [e'] at this
        cases this
      · have := hA rfl
        simp only [nOf, Int.toNat_natCast] at this
        exact this _ rfl
  · have e : (List.map (fun d => PyData.int (leastN (tiedTo n F (nOf d)))) (List.filter (fun _ => true) (natD (List.range n)))) = firstsD n F := by
      rw [List.filter_eq_self.mpr (fun _ _ => rfl)]
      unfold natD firstsD
      rw [List.map_map]
      apply List.map_congr_left
      intro y _
      simp [nOf]
    rw [e]
    exact k
theorem L_steps_ok {rs : List Rule} (h : rs.length ≤ 1000000) {Q : Ev → List Sl → Prop} (k : Q (.fresh (.list ((stepsL rs).map pairD))) [.fz (.tuple (rs.map ruleD))]) : m_L_steps [.fz (.tuple (rs.map ruleD))] Q := by
  unfold m_L_steps b_L_steps
  have isne : ∀ r : Rule, (!PyData.eqv (.str (opS r.op)) (.str (opS .ne))) = decide (r.op ≠ .ne) := fun r => by rw [eqv_op]; simp
  have iseq : ∀ r : Rule, PyData.eqv (.str (opS r.op)) (.str (opS .eq)) = decide (r.op = .eq) := fun r => eqv_op _ _
  let opOf : D → Str := fun d => match d with | .tuple [_, .str s, _] => s | _ => ""
  let xy : D → D := fun d => match d with | .tuple [x, _, y] => .tuple [x, y] | _ => .none
  let yx : D → D := fun d => match d with | .tuple [x, _, y] => .tuple [y, x] | _ => .none
  walk_at "w"
  refine lcGo_fm (ds := [.fz (.tuple (rs.map ruleD)), .no, .no, .no]) (all := rs.map ruleD) (fun d => !PyData.eqv (.str (opOf d)) (.str (opS .ne))) xy (fun P p => p) (fun d hd A B hA hB => ?_) (fun _ h => h) (by simp; omega) ?_
  · obtain ⟨r, hr, rfl⟩ := List.mem_map.mp hd
    walk_at "w"
    refine oNe_i (!PyData.eqv (.str (opS r.op)) (.str (opS .ne))) rfl ?_ ?_
    · simp [depth_str]
    refine br_i (fun hb => ?_) (fun hb => ?_)
    · exact hA hb _ rfl
    · exact hB hb _ rfl
  · walk_at "w"
    refine lcGo_fm (ds := [.fz (.tuple (rs.map ruleD)), .no, .no, .no]) (all := rs.map ruleD) (fun d => PyData.eqv (.str (opOf d)) (.str (opS .eq))) yx (fun P p => p) (fun d hd A B hA hB => ?_) (fun _ h => h) (by simp; omega) ?_
    · obtain ⟨r, hr, rfl⟩ := List.mem_map.mp hd
      walk_at "w"
      refine oEq_i (PyData.eqv (.str (opS r.op)) (.str (opS .eq))) rfl ?_ ?_
      · simp [depth_str]
      refine br_i (fun hb => ?_) (fun hb => ?_)
      · exact hA hb _ rfl
      · exact hB hb _ rfl
    · have e1 : List.map xy (List.filter (fun d => !PyData.eqv (.str (opOf d)) (.str (opS .ne))) (rs.map ruleD)) = ((rs.filter fun r => decide (r.op ≠ .ne)).map fun r => (r.x, r.y)).map pairD := by
        rw [List.filter_map, List.map_map, List.map_map]
        have : (List.filter ((fun d => !PyData.eqv (.str (opOf d)) (.str (opS .ne))) ∘ ruleD) rs) = rs.filter fun r => decide (r.op ≠ .ne) := List.filter_congr fun r _ => isne r
        rw [this]
        rfl
      have e2 : List.map yx (List.filter (fun d => PyData.eqv (.str (opOf d)) (.str (opS .eq))) (rs.map ruleD)) = ((rs.filter fun r => decide (r.op = .eq)).map fun r => (r.y, r.x)).map pairD := by
        rw [List.filter_map, List.map_map, List.map_map]
        have : (List.filter ((fun d => PyData.eqv (.str (opOf d)) (.str (opS .eq))) ∘ ruleD) rs) = rs.filter fun r => decide (r.op = .eq) := List.filter_congr fun r _ => iseq r
        rw [this]
        rfl
      rw [List.nil_append, List.nil_append, e1, e2]
      walk_at "w"
      refine ⟨?_, ?_⟩
      · simp only [List.length_map]
        have a1 := List.length_filter_le (fun r : Rule => decide (r.op ≠ .ne)) rs
        have a2 := List.length_filter_le (fun r : Rule => decide (r.op = .eq)) rs
        omega
      · rw [← List.map_append]
        exact k
end PV
end
section
set_option Elab.async false
set_option linter.all false
set_option maxRecDepth 100000
set_option maxHeartbeats 4000000
/-! walks of zip -/
namespace PV
open PySem PySem.W PyProof.Rows L2
def zipD : List D → List D → List D
  | x :: xs, y :: ys => .tuple [x, y] :: zipD xs ys
  | _, _ => []
theorem zipD_get : ∀ {xs ys : List D} {k : Nat} {d : D}, (zipD xs ys)[k]? = some d → ∃ x y, xs[k]? = some x ∧ ys[k]? = some y ∧ d = .tuple [x, y]
  | x :: xs, y :: ys, 0, d, h => by
    simp [zipD] at h
    exact ⟨x, y, rfl, rfl, h.symm⟩
  | x :: xs, y :: ys, k + 1, d, h => by
    simp only [zipD, List.getElem?_cons_succ] at h ⊢
    exact zipD_get h
  | [], _, k, d, h => by simp [zipD] at h
  | _ :: _, [], k, d, h => by simp [zipD] at h
theorem zipD_len : ∀ {xs ys : List D}, xs.length ≤ (zipD xs ys).length ∨ ys.length ≤ (zipD xs ys).length
  | x :: xs, y :: ys => by
    simp only [zipD, List.length_cons]
    have := zipD_len (xs := xs) (ys := ys)
    omega
  | [], _ => .inl (Nat.zero_le _)
  | _ :: _, [] => .inr (Nat.zero_le _)
section
variable {X : Cx} {tg e : Expr} {pn : List Nat} {pos : Pos}
theorem itz_ok {σ : L2.St} {G : Hp} {a b : Addr} {vs ws : List V} {xs ys : List D} (h : SqL X.K G a vs) (p : DpAll X.K G vs xs) (h' : SqL X.K G b ws) (p' : DpAll X.K G ws ys) : ItOk X.K pn σ G ⟨zipD xs ys, none⟩ (Itz X.K a b) := by
  intro G1 ds1 σ1 H1 R1 s _ _
  have h1 : SqL X.K H1 a vs := SqL.mo (s.trans R1.sub) h
  have h2 : SqL X.K H1 b ws := SqL.mo (s.trans R1.sub) h'
  refine ⟨⟨vs, ws, h1, h2, by rw [p.len, p'.len]; exact zipD_len⟩, fun k d e => ?_⟩
  obtain ⟨x, y, e1, e2, rfl⟩ := zipD_get e
  obtain ⟨v, f1, f2⟩ := p.get e1
  obtain ⟨w, g1, g2⟩ := p'.get e2
  refine ⟨⟨vs, ws, v, w, h1, h2, f1, g1⟩, fun v' H' q => ?_⟩
  obtain ⟨T, v2, w2, rfl, hn, rfl, q1, q2⟩ := q
  have q1 := q1 vs h1
  have q2 := q2 ws h2
  rw [f1] at q1; cases q1
  rw [g1] at q2; cases q2
  obtain ⟨z1, z2, z3⟩ := new_tup R1 (vs := [v, w]) (es := [x, y]) (.cons (Dp.mo s _ _ f2) (.cons (Dp.mo s _ _ g2) .nil)) hn
  exact ⟨_, z1, z2, z3⟩
theorem itzT_ok {σ : L2.St} {G : Hp} {a b : Addr} {vs ws : List V} {xs ys : List D} (h : SqT X.K G a vs) (p : DpAll X.K G vs xs) (h' : SqT X.K G b ws) (p' : DpAll X.K G ws ys) : ItOk X.K pn σ G ⟨zipD xs ys, none⟩ (RZ.ItzT X.K a b) := by
  intro G1 ds1 σ1 H1 R1 s _ _
  have h1 : SqT X.K H1 a vs := SqT.mo (s.trans R1.sub) h
  have h2 : SqT X.K H1 b ws := SqT.mo (s.trans R1.sub) h'
  refine ⟨⟨vs, ws, h1, h2, by rw [p.len, p'.len]; exact zipD_len⟩, fun k d e => ?_⟩
  obtain ⟨x, y, e1, e2, rfl⟩ := zipD_get e
  obtain ⟨v, f1, f2⟩ := p.get e1
  obtain ⟨w, g1, g2⟩ := p'.get e2
  refine ⟨⟨vs, ws, v, w, h1, h2, f1, g1⟩, fun v' H' q => ?_⟩
  obtain ⟨T, v2, w2, rfl, hn, rfl, q1, q2⟩ := q
  have q1 := q1 vs h1
  have q2 := q2 ws h2
  rw [f1] at q1; cases q1
  rw [g1] at q2; cases q2
  obtain ⟨z1, z2, z3⟩ := new_tup R1 (vs := [v, w]) (es := [x, y]) (.cons (Dp.mo s _ _ f2) (.cons (Dp.mo s _ _ g2) .nil)) hn
  exact ⟨_, z1, z2, z3⟩
def iZip (f : DA) : DI := fun ds Q => f ds fun es ds1 => frzAll es ds1 fun xs ds2 => match xs with
  | [.list a, .list b] => Q ⟨zipD a b, none⟩ ds2
  | [.tuple a, .tuple b] => Q ⟨zipD a b, none⟩ ds2
  | _ => False
variable {a b : Expr} {p : Pos} {fa : DA}
theorem pvi_zip {elts : List Expr} {kk : Nat} {tpos : Pos} (hg : Gl X "zip") (hm : X.mg "zip" = none) (ha : PVA X [a, b] fa)
    (hs : starEach [a, b] X.env = (false, eval a X.env) :: starEach [b] X.env := by rfl) (hpl : (backTo pos (starEach [b] X.env)).any (·.1) = false := by rfl) :
    PVI X pn (.Tuple elts kk tpos) (.Call (.Name "zip" p) [a, b] [] pos) (iZip fa) := by
  obtain ⟨t, h1, h2⟩ := ha
  refine ⟨_, RZ.pi_zipA hg hm h1 hs hpl, fun G ds σ H DQ R RR hf k => h2 G ds σ H _ _ RR hf fun es ds1 vs G1 H1 q1 R1 x1 r1 => ?_⟩
  obtain ⟨xs, ds2, G2, q2, R2, p2, x2⟩ := frzAll_ok R1 r1 q1
  split at q2
  · cases p2 with
    | cons u1 r =>
      cases r with
      | cons u2 r =>
        cases r
        cases u1 with
        | lst s1 a1 =>
          cases u2 with
          | lst s2 a2 => exact ⟨_, _, _, _, rfl, .inl ⟨SqL.mo R2.sub s1, SqL.mo R2.sub s2, k _ _ _ _ _ q2 R2 (x1.trans x2) (itz_ok s1 a1 s2 a2)⟩⟩
  · cases p2 with
    | cons u1 r =>
      cases r with
      | cons u2 r =>
        cases r
        cases u1 with
        | tup s1 a1 =>
          cases u2 with
          | tup s2 a2 => exact ⟨_, _, _, _, rfl, .inr ⟨SqT.mo R2.sub s1, SqT.mo R2.sub s2, k _ _ _ _ _ q2 R2 (x1.trans x2) (itzT_ok s1 a1 s2 a2)⟩⟩
  · exact q2.elim
end
end PV
end
section
set_option Elab.async false
set_option linter.all false
set_option maxRecDepth 100000
set_option maxHeartbeats 4000000
/-! t[::-1] of lists and of tuples -/
namespace HT
open PySem PySem.Spec PyProof.Rows
section
variable {prog : Program} {w : World} {A : Around} {E : Value → Shared → Prop} {s : Shared}
theorem fm_congr {α β : Type} {f g : α → Option β} : ∀ {l : List α}, (∀ x ∈ l, f x = g x) → l.filterMap f = l.filterMap g
  | [], _ => rfl
  | a :: l, h => by
    rw [List.filterMap_cons, List.filterMap_cons, h a List.mem_cons_self, fm_congr fun x hx => h x (List.mem_cons_of_mem _ hx)]
theorem places_rev (n : Nat) : Builtin.Slice.slicePlaces ((n : Int) - 1) (-1) (-1) = n := by
  unfold Builtin.Slice.slicePlaces
  have h1 : ¬ ((-1 : Int) > 0) := by omega
  simp only [h1, if_false]
  have e2 : (- (-1 : Int)) = 1 := by omega
  rw [e2, Int.ediv_one]
  split <;> omega
theorem sliceApplied_rev {sl : Addr} {vl vu vs : Value} {n : Nat} {Q : Int × Int × Nat → Shared → Prop} (hs : s.heap.IsSliceOf sl vl vu vs) (pl : IsPart vl none) (pu : IsPart vu none) (ps : IsPart vs (some (-1)))
    (h : Q ((n : Int) - 1, -1, n) s) : wpAny (model prog w) A (Builtin.Slice.sliceApplied (.ref sl) (pure (n : Int))) Q E s := by
  obtain ⟨os, hos, hcs, hds⟩ := id hs
  unfold Builtin.Slice.sliceApplied Builtin.Slice.sliceFields
  refine wpAny_bind (wpAny_bind (wpAny_field hos hds (x := vl) rfl (wpAny_bind (wpAny_field hos hds (x := vu) rfl (wpAny_bind (wpAny_field hos hds (x := vs) rfl (wpAny_pure ?_)))))))
  refine wpAny_bind (slicePart_ ps ?_)
  show wpAny _ _ (if ((-1 : Int) == 0) = true then _ else _) _ _ s
  rw [if_neg (by decide)]
  refine wpAny_bind (slicePart_ pl (wpAny_bind (slicePart_ pu (wpAny_bind (wpAny_pure ?_)))))
  show wpAny _ _ (pure ((n : Int) - 1, (-1 : Int), Builtin.Slice.slicePlaces ((n : Int) - 1) (-1) (-1))) _ _ s
  rw [places_rev]
  exact wpAny_pure h
theorem pick_rev (xs : Array Value) : ((List.range xs.size).filterMap fun (m : Nat) => xs[(((xs.size : Int) - 1) + (m : Int) * (-1)).toNat]?).toArray = xs.toList.reverse.toArray := by
  have h := PySem.W.krv_pick xs
  rw [← h]
  unfold slicePick
  rw [PySem.W.krv_bounds]
  show _ = ((sliceRange ((xs.size : Int) - 1) (-1) (-1)).filterMap (xs[·]?)).toArray
  rw [PySem.W.krv_sliceRange, List.filterMap_map]
  congr 1
  refine fm_congr fun m hm => ?_
  have := List.mem_range.mp hm
  show xs[(((xs.size : Int) - 1) + (m : Int) * (-1)).toNat]? = xs[xs.size - 1 - m]?
  congr 1
  omega
theorem getItem_tuple_rev {t sl : Addr} {items : Array Value} {vl vu vs : Value} {Q : Value → Shared → Prop} (ht : IsTup s.heap t items) (hs : s.heap.IsSliceOf sl vl vu vs) (pl : IsPart vl none) (pu : IsPart vu none) (ps : IsPart vs (some (-1)))
    (h : Q (.ref s.heap.objs.size) { s with heap := s.heap.push { cls := .type "tuple", data := .seq items.toList.reverse.toArray } })
    (hsz : items.size ≤ sizeLine) : wpAny (model prog w) A (getItem (.ref t) (.ref sl)) Q E s := by
  have htake : sizeOk (.seq items.toList.reverse.toArray) := by
    show items.toList.reverse.toArray.size ≤ sizeLine
    rw [List.size_toArray, List.length_reverse, Array.length_toList]
    exact hsz
  obtain ⟨os, hos, hcs, hds⟩ := id hs
  have hTs : s.TypeIs (.ref sl) "slice" := ⟨os, hos, hcs⟩
  unfold getItem
  try with_reducible refine wpAny_holding ?_
  first | refine wpAny_bind (wpAny_pure ?_) | skip
  refine wpAny_bind (wpAny_sequenceKey ht.typeIs (by decide) ?_)
  refine wpAny_bind (wpAny_callSpecial?_slot (name := Str.ofString "__getitem__") ht.typeIs PyProof.Rows.slot_tuple_getitem
    (wpAny_call_entry PyProof.Rows.slot_tuple_getitem ht.typeIs entry_tuple_getitem ?_ (args_tuple_getitem _ _)))
  show wpAny _ _ (Builtin.Tuple.tupleItemsOf (.ref t) >>= _) _ _ s
  refine wpAny_bind (tupleItemsOf_ ht ?_)
  refine wpAny_bind (wpAny_typeOf hTs ?_)
  rw [if_pos (by decide)]
  refine wpAny_bind (sliceApplied_rev hs pl pu ps ?_)
  have hno : ¬ ((((items.size : Int) - 1) == 0 && (-1 : Int) == 1 && items.size == items.size) = true) := by
    intro q
    rw [Bool.and_eq_true, Bool.and_eq_true] at q
    exact absurd q.1.2 (by decide)
  show wpAny _ _ (if (((items.size : Int) - 1) == 0 && (-1 : Int) == 1 && items.size == items.size) = true then _ else _) _ _ s
  rw [if_neg hno, pick_rev]
  first
    | exact wpAny_bind (m := Builtin.Tuple.tupleExact _) (wpAny_newObj_type (wpAny_pure ⟨_, rfl, wpAny_pure h⟩) htake)
    | exact wpAny_bind (m := Builtin.Tuple.tupleExact _) (wpAny_newObj_type (wpAny_bind (wpAny_pure (wpAny_pure ⟨_, rfl, wpAny_pure h⟩))) htake)
    | exact wpAny_bind (wpAny_bind (m := Builtin.Tuple.tupleExact _) (wpAny_newObj_type (wpAny_pure (wpAny_pure ⟨_, rfl, wpAny_pure h⟩)) htake))
    | exact wpAny_bind (wpAny_bind (m := Builtin.Tuple.tupleExact _) (wpAny_newObj_type (wpAny_pure ⟨_, rfl, wpAny_pure h⟩) htake))
end
end HT
namespace L2
open PySem PySem.Spec PyProof.Rows
section
variable {X : Cx}
def tRevA (K : PySem.W.Frag) (te : TE) : TE := fun σ H Q => te σ H fun x H1 => ∃ a xs, x = .ref a ∧
  ((SqL K H1 a xs ∧ ∀ p, H1 p = none → Q (.ref p) (upd H1 p (.lst xs.reverse))) ∨ (SqT K H1 a xs ∧ ∀ p, H1 p = none → Q (.ref p) (upd H1 p (.tup xs.reverse))))
theorem pe_revA {e : Expr} {te : TE} {k : Nat} {p1 p2 p3 pos : Pos} (he : PE X e te) : PE X (.Subscript e (.Slice none none (some (.UnaryOp .USub (.Constant (.int 1) k p1) p2)) p3) pos) (tRevA X.K te) := by
  refine ⟨fun pins s σ H Q I h => ?_⟩
  refine Subscript_ (thn (he.run pins s σ H _ I h) fun v s1 ⟨x, H1, I1, r1, q1⟩ => ?_)
  obtain ⟨a, xs, ex, q⟩ := q1
  subst ex
  cases r1
  have hst : PO X (some (.UnaryOp .USub (.Constant (.int 1) k p1) p2)) (tPart (tUn (rU fun i => .int (-i)) (tC (.int 1)))) := po_some (pe_un un_neg pe_int)
  refine wpAny_Slice (thn (po_none.run pins s1 σ H1 (fun o H2 => o = none ∧ H2 = H1) I1 ⟨rfl, rfl⟩) fun vl s2 ⟨l, H2, I2, pl, el, e2⟩ => ?_)
  subst el e2
  refine thn (po_none.run pins s2 σ H2 (fun o H3 => o = none ∧ H3 = H2) I2 ⟨rfl, rfl⟩) fun vu s3 ⟨u, H3, I3, pu, eu, e3⟩ => ?_
  subst eu e3
  refine thn (hst.run pins s3 σ H3 (fun o H4 => o = some (-1) ∧ H4 = H3) I3 ⟨1, rfl, -1, rfl, rfl, rfl⟩) fun vs s4 ⟨o, H4, I4, ps, eo, e4⟩ => ?_
  subst eo e4
  have I5 : Inv X pins σ H4 { s4 with heap := s4.heap.push { cls := .type "slice", data := .fields #[vl, vu, vs] } } := I4.kept (t' := s4.toks) fun b ob q => Heap.get?_push_of_some _ q
  show wpAny (model X.prog X.w) X.A (subscriptTail e (.Slice none none (some (.UnaryOp .USub (.Constant (.int 1) k p1) p2)) p3) (.ref a) (.ref s4.heap.objs.size)) (EP X pins σ Q) X.xe { s4 with heap := s4.heap.push { cls := .type "slice", data := .fields #[vl, vu, vs] } }
  rcases q with ⟨hx, q⟩ | ⟨hx, q⟩
  · obtain ⟨its, r, ht, hz⟩ := I5.list hx
    have hlen := r.length
    refine tail_any (ops := [.ref a, .ref s4.heap.objs.size]) ht.isList.typeIs (PySem.slot_list_getitem.lookup) ?_ (by with_unfolding_all rfl)
    refine wpAny_getItem_list_slice ht.isList (Heap.IsSliceOf.new _ vl vu vs) pl pu ps (by decide) ?_ (by rw [List.size_toArray]; omega)
    rw [PySem.W.krv_pick]
    refine ⟨.ref _, _, I5.laid (t' := s4.toks) (o := .lst xs.reverse) (fun b ob q => Heap.get?_push_of_some _ q) (Nat.le_refl _) ?_, rfl, q _ (I5.hok.fresh (Nat.le_refl _))⟩
    exact ⟨by rw [List.length_reverse]; exact hz, _, 0, r.reverse, Heap.get?_push_size _ rfl⟩
  · obtain ⟨its, r, ht, hz⟩ := I5.tuple hx
    have hlen : its.toArray.size = xs.length := by rw [List.size_toArray]; exact r.length.symm
    refine tail_any (ops := [.ref a, .ref s4.heap.objs.size]) ht.typeIs (PyProof.Rows.slot_tuple_getitem.lookup) ?_ (by with_unfolding_all rfl)
    refine HT.getItem_tuple_rev ht (Heap.IsSliceOf.new _ vl vu vs) pl pu ps ?_ (by rw [hlen]; exact hz)
    refine ⟨.ref _, _, I5.laid (t' := s4.toks) (o := .tup xs.reverse) (fun b ob q => Heap.get?_push_of_some _ q) (Nat.le_refl _) ?_, rfl, q _ (I5.hok.fresh (Nat.le_refl _))⟩
    exact ⟨by rw [List.length_reverse]; exact hz, _, r.reverse, IsTup.new _ _⟩
end
end L2
namespace PV
open PySem L2
def eRev (f : DE) : DE := fun ds Q => f ds fun e ds1 => rd (nm e) ds1 fun d => match d with
  | .list xs => Q (.fresh (.list xs.reverse)) ds1
  | .tuple xs => Q (.val (.tuple xs.reverse)) ds1
  | _ => False
section
variable {X : Cx}
theorem DpAll.rev {K : PySem.W.Frag} {H : Hp} : ∀ {vs : List V} {ds : List D}, DpAll K H vs ds → DpAll K H vs.reverse ds.reverse
  | _, _, .nil => .nil
  | _, _, .cons h t => by
    rw [List.reverse_cons, List.reverse_cons]
    exact DpAll.app (DpAll.rev t) (.cons h .nil)
theorem pve_rev {e : Expr} {f : DE} {k : Nat} {p1 p2 p3 pos : Pos} (he : PVE X e f) : PVE X (.Subscript e (.Slice none none (some (.UnaryOp .USub (.Constant (.int 1) k p1) p2)) p3) pos) (eRev f) := by
  obtain ⟨t, h1, h2⟩ := he
  refine ⟨_, pe_revA h1, fun G ds σ H DQ Q R hf k => h2 G ds σ H _ _ R hf fun e1 ds1 v1 G1 H1 q1 R1 x1 r1 n1 => ?_⟩
  obtain ⟨G1', R1', x1', r1'⟩ := nm_ok R1 x1 r1 n1
  obtain ⟨d, sh, q4⟩ := rd_sh (v := v1) R1' r1' q1
  split at q4
  · obtain ⟨a, vs, rfl, q5, q6⟩ := sh.list R1'.sub
    refine ⟨a, vs, rfl, .inl ⟨q5, fun p hp => ?_⟩⟩
    obtain ⟨z1, z2, z3, z4⟩ := new_list R1' (DpAll.rev q6) hp
    exact k _ _ _ _ _ q4 z1 (x1'.trans z2) z3 (x1'.back z4)
  · obtain ⟨a, vs, rfl, q5, q6⟩ := sh.tuple R1'.sub
    refine ⟨a, vs, rfl, .inr ⟨q5, fun p hp => ?_⟩⟩
    obtain ⟨z1, z2, z3⟩ := new_tup R1' (DpAll.rev q6) hp
    exact k _ _ _ _ _ q4 z1 (x1'.trans z2) z3 trivial
  · exact q4.elim
end
end PV
end
section
set_option Elab.async false
set_option linter.all false
set_option maxRecDepth 100000
set_option maxHeartbeats 4000000
/-! tuple * int -/
namespace PV
open PySem L2
def oRep : DOp := fun d1 d2 Q => match d1, d2 with
  | .tuple xs, .int k => (xs ≠ [] ∧ 2 ≤ k ∧ k ≤ 1000 ∧ xs.length ≤ 1000) ∧ Q (.val (.tuple (List.replicate k.toNat xs).flatten))
  | _, _ => False
theorem DpAll.rep {K : PySem.W.Frag} {H : Hp} {vs : List V} {ds : List D} (h : DpAll K H vs ds) : ∀ n, DpAll K H (List.replicate n vs).flatten (List.replicate n ds).flatten
  | 0 => .nil
  | n + 1 => by
    rw [List.replicate_succ, List.replicate_succ, List.flatten_cons, List.flatten_cons]
    exact DpAll.app h (DpAll.rep h n)
section
variable {X : Cx}
theorem opv_rep : OpV X (binaryOp .Mult) oRep := by
  refine ⟨_, op_repT, fun G ds σ H x y d1 d2 DQ Q R sx sy hq k => ?_⟩
  unfold oRep at hq
  split at hq
  · obtain ⟨a, vs, rfl, q1, q2⟩ := sx.tuple R.sub
    obtain ⟨⟨c1, c2, c3, c4⟩, q⟩ := hq
    refine ⟨_, _, _, rfl, sy.int, q1, fun e => c1 (by
      have := q2.len
      rw [e] at this
      exact List.eq_nil_of_length_eq_zero this.symm), c2, c3, by rw [q2.len]; exact c4, fun p hp => ?_⟩
    obtain ⟨z1, z2, z3⟩ := new_tup R (DpAll.rep q2 _) hp
    exact k _ _ _ _ q z1 z2 z3 trivial
  · exact hq.elim
end
end PV
end
section
set_option Elab.async false
set_option linter.all false
set_option maxRecDepth 100000
set_option maxHeartbeats 4000000
/-! set(xs) of a list of whole numbers; sorted of a set of them, of any size -/
namespace PVS
open PySem PySem.Spec PyProof.Rows L2
section
variable {P : Program} {w : World} {A : Around} {E : Value → Shared → Prop} {s : Shared}
/-- T(args), the maker and the check of the arguments given as codes -/
theorem makes {T newId initId : String} {Bi : Builtin} {args : List Value} {Q Q₁ : Value → Shared → Prop} (ft : TypeCalled T newId initId) (hct : checkTypeCall T ⟨args, []⟩ = pure ()) (he : entryFor table initId = some Bi)
    (hnew : codeAny (model P w) A.in1 (.call (.builtin newId) ⟨.type T :: args, []⟩) (wants Q₁ E) s)
    (hini : ∀ x s₁, Q₁ x s₁ → s₁.TypeIs x T ∧ codeAny (model P w) A.in1 (.call (.builtin initId) ⟨x :: args, []⟩) (wants (fun r s₂ => r = .none ∧ Q x s₂) E) s₁) :
    wpAny (model P w) A (call (.type T) args) Q E s := by
  rcases ft with ⟨n1, n2, ⟨c, tl, n3⟩, n4, n5, n6, n7⟩
  refine wpAny_call (codeAny_of_tree (?_ : wpAny _ _ (callAny (.type T) _) _ _ _))
  refine wpAny_pure ⟨Code.quiet_builtin _ (by decide +kernel), codeAny_builtin F.entry_type_call ?_⟩
  rw [Around.under_plain (weight_type_call_type T args []) rfl]
  have lk := n7.lookup
  repeat (any_goals (first | assumption | wp_step))
  all_goals
    refine codeAny_mono hnew fun r s₁ hr => ?_
    match r, hr with
    | .error e, hr => exact hr
    | .ok (.ret x), hr =>
      obtain ⟨ty, hi⟩ := hini _ _ hr
      have bd := n7.bind x
      repeat (any_goals (first | assumption | wp_step))
      all_goals
        refine codeAny_mono hi fun r₂ s₂ h₂ => ?_
        match r₂, h₂ with
        | .error e, h₂ => exact h₂
        | .ok (.ret x), ⟨e, q⟩ =>
          subst e
          repeat (any_goals (first | assumption | wp_step))
end
end PVS
end
section
set_option Elab.async false
set_option linter.all false
set_option maxRecDepth 100000
set_option maxHeartbeats 8000000
namespace PVS
open PySem PySem.Spec PyProof.Rows L2
section
variable {P : Program} {w : World} {A : Around} {E : Value → Shared → Prop} {s : Shared}
/-- an empty set -/
abbrev emO (w : World) : Obj := { cls := .type "set", dict := none, data := .set #[] 0 (.fresh 0 0 (!w.params.followText "set-order")) }
theorem emO_made {h h₁ : Heap} {e : Obj} (g : h₁.get? h.objs.size = some (emO w)) {ns : List Int} : ∃ c, c ≤ 0 ∧ SetR w h₁ h.objs.size (fun j => decide (j ∈ ns.take 0)) c := ⟨0, Nat.le_refl 0, setR_new_at g⟩
theorem set_of_list {l : Addr} {items : Array Value} {ns : List Int} {Q : Value → Shared → Prop} (hh : A.handled = none) (hl : s.heap.IsList l items) (hit : IntsAre items.toList ns) (hb : ns.length + 1 < scanBound)
    (h : ∀ (h' : Heap) (tk c : Nat), SetR w h' s.heap.objs.size (fun j => decide (j ∈ ns)) c → c ≤ ns.length → (∀ b o, s.heap.get? b = some o → h'.get? b = some o) → Q (.ref s.heap.objs.size) { s with heap := h', toks := tk }) :
    wpAny (model P w) A (call (.type "set") [.ref l]) Q E s := by
  let H1 := s.heap.push (emO w)
  have z1 : H1.objs.size = s.heap.objs.size + 1 := Heap.size_push ..
  refine makes (Q₁ := fun x s₁ => x = .ref s.heap.objs.size ∧ s₁ = { s with heap := H1 }) F.called_set (F.typeCall_set_1 _) F.entry_set_init (code_set_led1 (.ref l) ⟨rfl, rfl⟩) ?_
  rintro x s₁ ⟨rfl, rfl⟩
  have gS : H1.get? s.heap.objs.size = some (emO w) := Heap.get?_push_size _ rfl
  have ty : Shared.TypeIs { s with heap := H1 } (.ref s.heap.objs.size) "set" := ⟨_, gS, rfl⟩
  refine ⟨ty, codeAny_mono (codeAny_call_builtin (R := wants (fun r s₂ => r = .none ∧ ∃ h' tk c, s₂ = { s with heap := h', toks := tk } ∧ SetR w h' s.heap.objs.size (fun j => decide (j ∈ ns)) c ∧ c ≤ ns.length ∧ (∀ b o, s.heap.get? b = some o → h'.get? b = some o)) E) F.called_set.init.plain F.entry_set_init (check_set_init_1 ty ?_)) fun r s₂ hr => ?_⟩
  · have len : items.size = ns.length := by rw [← Array.length_toList]; exact hit.length
    obtain ⟨⟨oc, od, odt, osl⟩, ol, c1, n, d1⟩ := hl
    cases c1; cases d1
    have lS : l < s.heap.objs.size := Heap.lt_size ol
    have ol1 : H1.get? l = some { cls := .type "list", dict := od, data := .seq items n, slots := osl } := Heap.get?_push_of_some _ ol
    have L1 : H1.IsList l items := ⟨_, ol1, rfl, n, rfl⟩
    have k1 := F.sub_list_set
    have k2 := F.sub_list_frozenset
    have k3 : (Value.type "list" == Value.type "dict") = false := by decide
    have gS' := gS
    unfold Builtin.«set.__init__» noKeywords Builtin.Frozenset.updateFrom
    generalize hI : pyIter = It
    wp_walk
    subst hI
    refine wpAny_pyIter_list L1 (wpAny_bind (wpAny_runValue ?_))
    have n1 : l ≠ H1.objs.size := by rw [z1]; exact Nat.ne_of_lt (Nat.lt_succ_of_lt lS)
    have n2 : s.heap.objs.size ∉ [H1.objs.size, l] := by
      rw [z1]; simp only [List.mem_cons, List.not_mem_nil, or_false, not_or]; exact ⟨Nat.ne_of_lt (Nat.lt_succ_self _), Nat.ne_of_gt lS⟩
    refine set_update_ints (Walks.list (by simp [hh]) _ l n1 items).toS s.heap.objs.size n2 ns len hb (fun i v hv => ?_) items.size 0 _ rfl (Nat.zero_le _) ⟨⟨_, Heap.get?_push_size _ rfl, rfl, rfl⟩, L1.push _⟩
      (emO_made (e := emO w) (Heap.get?_push_of_some _ gS)) fun s' c m hc hS => ?_
    · have hi : i < ns.length := by rw [← len]; exact (Array.getElem?_eq_some_iff.mp hv).1
      obtain ⟨t, e⟩ := IntsAre.int_at hit i v (by rw [Array.getElem?_toList]; exact hv)
      exact ⟨ns[i], t, List.getElem?_eq_getElem hi, by rw [e]; simp [List.getD, hi]⟩
    · rcases s' with ⟨h', g', d', tk', os'⟩
      have q1 : g' = s.gens := m.gens
      have q2 : d' = s.drawn := m.drawn
      have q3 : os' = s.os := m.os
      cases q1; cases q2; cases q3
      refine wpAny_pure (wpAny_pure ⟨rfl, h', tk', c, rfl, hS, by omega, fun b o e => ?_⟩)
      have lb : b < s.heap.objs.size := Heap.lt_size e
      refine m.heap b o ?_ (Heap.get?_push_of_some _ (Heap.get?_push_of_some _ e))
      simp only [List.mem_cons, List.not_mem_nil, or_false, not_or]
      exact ⟨Nat.ne_of_lt lb, by rw [z1]; exact Nat.ne_of_lt (Nat.lt_succ_of_lt lb)⟩
  · match r, hr with
    | .error e, hr => exact hr
    | .ok (.ret x), ⟨e, h', tk, c, e2, a, b, k⟩ => exact ⟨e, by rw [e2]; exact h h' tk c a b k⟩
end
end PVS
end
section
set_option Elab.async false
set_option linter.all false
set_option maxRecDepth 100000
set_option maxHeartbeats 8000000
namespace PVS
open PySem PySem.Spec PyProof.Rows L2 SrtO
section
variable {P : Program} {w : World} {A : Around} {E : Value → Shared → Prop} {s : Shared}
theorem sorted_of_set {a : Addr} {S : Int → Bool} {n : Nat} {Q : Value → Shared → Prop} (R : SetR w s.heap a S n) (hh : A.handled = none) (hb : n ≤ sizeLine)
    (k : ∀ (s' : Shared) (p : Addr) (out : Array Value) (c : Nat) (ns : List Int), (∀ b o, s.heap.get? b = some o → s'.heap.get? b = some o) → s'.gens = s.gens → s'.os = s.os → s.heap.objs.size ≤ p →
      s'.heap.get? p = some (seqObj "list" out c) → IntsAre out.toList ns → ns.Pairwise (· < ·) → (∀ k, k ∈ ns ↔ S k = true) → ns.length = n → Q (.ref p) s') :
    wpAny (model P w) A (call (.builtin "sorted") [.ref a]) Q E s := by
  rcases R with ⟨o, es, ep, t, g1, g2, g3, good, dis, mem, few, fit, num, up, led⟩
  refine Calls.call_function_entry kind_sorted plain_sorted entry_sorted (args_sorted1 _) ?_
  unfold Builtin.«sorted»
  refine wpAny_bind (m := checkCount "sorted" 1 1 _) (wpAny_pure (wpAny_bind (collect_set (A := A.in1) hh ⟨o, g1, g2.1, g3⟩ fit few up led fun s1 vs kept grow gn os pm => ?_)))
  have vl : vs.length = n := by rw [pm.length_eq, List.length_map, Array.length_toList]; exact num
  have hI : IntsAre vs (vs.map Builtin.Re.reRawOf) := ints_of vs fun v hv => by
    obtain ⟨e, he, q⟩ := List.mem_map.mp (pm.mem_iff.mp hv)
    obtain ⟨j, tk, h1, _⟩ := good e he
    exact ⟨j, tk, q.symm.trans h1⟩
  have hr : vs.map Builtin.Re.reRawOf = vs.map iv := List.map_congr_left fun v hv => by
    obtain ⟨i, t, rfl⟩ := ints_mem hI v hv
    rfl
  rw [hr] at hI
  have pk : (vs.map iv).Perm (es.toList.map keyOf) := by
    rw [← hr]
    have q := pm.map Builtin.Re.reRawOf
    rwa [List.map_map] at q
  refine wpAny_bind (wpAny_newList ?_ (by omega))
  have oL : (s1.heap.push (seqObj "list" vs.toArray 0)).get? s1.heap.objs.size = some (seqObj "list" vs.toArray 0) := Heap.get?_push_size _ rfl
  refine wpAny_bind (wpAny_holding (wpAny_call_entry slot_list_sort ⟨_, oL, rfl⟩ entry_list_sort (list_sort_ord swo_int oL (by omega) (fun h2 => ints_sortable hI h2) fun out hs hb => ⟨_, rfl, ?_⟩) (args_list_sort _)))
  obtain ⟨k1, k2, k3⟩ := ints_out hI hs hb
  obtain ⟨c, oS⟩ := sortedHeap_at (vs := vs) (out := out.toArray) oL
  have pn := k2.trans pk
  refine wpAny_pure ⟨_, rfl, k _ s1.heap.objs.size out.toArray c (out.map iv) (fun b u e => ?_) gn os grow oS (by simpa using k1) (lt_of_le_nodup _ k3 (pn.nodup_iff.mpr dis)) (fun j => by rw [pn.mem_iff, ← mem j]) ?_⟩
  · have q := kept b u e
    have lt := Heap.lt_size q
    show (sortedHeap (s1.heap.push (seqObj "list" vs.toArray 0)) s1.heap.objs.size vs out.toArray).get? b = some u
    rw [sortedHeap_old (Nat.ne_of_lt lt) (by rw [size_push']; exact Nat.lt_succ_of_lt lt)]
    exact Heap.get?_push_of_some _ q
  · rw [pn.length_eq, List.length_map, Array.length_toList]; exact num
theorem min_of_tuple {l : Addr} {its : List Value} {ns : List Int} {Q : Value → Shared → Prop} (hh : A.handled = none) (hl : s.heap.IsTuple l its.toArray) (hi : IntsAre its ns) (hne : 0 < ns.length)
    (h : ∀ h' tk M t', (∀ b o, s.heap.get? b = some o → h'.get? b = some o) → M ∈ ns → (∀ a, a ∈ ns → M ≤ a) → Q (.int M t') { s with heap := h', toks := tk }) : wpAny (model P w) A (call (.builtin "min") [.ref l]) Q E s := by
  obtain ⟨xs, e⟩ := hi.allInts.items
  have hn : numsOf (intItems xs).toList = ns := by rw [← e]; exact hi.numsOf
  rw [nums_intItems] at hn
  subst hn
  rw [e] at hl
  have sz : 0 < xs.size := by simpa using hne
  have z1 : (s.heap.push { cls := .type "tuple_iterator", data := .fields #[.ref l, .int 0 0] }).objs.size = s.heap.objs.size + 1 := Heap.size_push ..
  have ll : l < s.heap.objs.size := by obtain ⟨o, q, _⟩ := hl; exact Heap.lt_size q
  refine call_min_walk (wpAny_pyIter_tuple hl ⟨_, [s.heap.objs.size, l], [s.heap.objs.size], _, _, _, _, rfl, Walks.tuple (A := A.in1) hh _ l (Nat.ne_of_lt ll) (intItems xs), ⟨⟨_, Heap.get?_push_size _ rfl, rfl, rfl⟩, hl.push _⟩, fun c hc => ?_, by simpa [intItems] using sz, CmpOf.ints_lt (numAt xs) (fun _ _ => intItems_at), fun v h' tk hP hk => ?_⟩)
  · rw [z1]
    simp only [List.mem_cons, List.not_mem_nil, or_false] at hc
    rcases hc with rfl | rfl
    · exact Nat.lt_succ_self _
    · exact Nat.lt_succ_of_lt ll
  · have hP : (intItems xs)[argBest (fun i j => decide (numAt xs i < numAt xs j)) (xs.size - 1)]? = some v := by simpa [intItems] using hP
    obtain ⟨t, rfl⟩ := intItems_at hP
    obtain ⟨h1, h2⟩ := argBest_lt (numAt xs) (xs.size - 1)
    refine h h' tk _ t (fun b o q => ?_) ?_ fun a ha => ?_
    · have lb := Heap.lt_size q
      exact hk b o (by simp only [List.mem_cons, List.not_mem_nil, or_false]; exact Nat.ne_of_lt lb) (Heap.get?_push_of_some _ q)
    · rw [numAt_eq]; exact PySem.getD_mem (by rw [List.length_map, Array.length_toList]; omega)
    · obtain ⟨j, hj, rfl⟩ := mem_getD ha
      rw [List.length_map, Array.length_toList] at hj
      rw [← numAt_eq]; exact h2 j (by omega)
end
end PVS
end
section
set_option Elab.async false
set_option linter.all false
set_option maxRecDepth 100000
set_option maxHeartbeats 4000000
namespace PV
open PySem PySem.W PyProof.Rows L2
/-! ### strictly rising, without doubles -/
def insI (x : Int) : List Int → List Int
  | [] => [x]
  | y :: r => if x < y then x :: y :: r else if x = y then y :: r else y :: insI x r
def ssI (ns : List Int) : List Int := ns.foldr insI []
theorem mem_insI {x k : Int} : ∀ {l : List Int}, k ∈ insI x l ↔ k = x ∨ k ∈ l
  | [] => by simp [insI]
  | y :: r => by
    unfold insI
    split
    · simp
    · split
      · rename_i h; subst h; simp
      · rw [List.mem_cons, mem_insI (l := r), List.mem_cons]
        constructor
        · rintro (h | h | h)
          · exact .inr (.inl h)
          · exact .inl h
          · exact .inr (.inr h)
        · rintro (h | h | h)
          · exact .inr (.inl h)
          · exact .inl h
          · exact .inr (.inr h)
theorem insI_up {x : Int} : ∀ {l : List Int}, l.Pairwise (· < ·) → (insI x l).Pairwise (· < ·)
  | [], _ => by simp [insI]
  | y :: r, h => by
    obtain ⟨h1, h2⟩ := List.pairwise_cons.mp h
    unfold insI
    split
    · rename_i c
      refine List.pairwise_cons.mpr ⟨fun z hz => ?_, h⟩
      rcases List.mem_cons.mp hz with rfl | hz
      · exact c
      · have := h1 z hz; omega
    · split
      · exact h
      · refine List.pairwise_cons.mpr ⟨fun z hz => ?_, insI_up h2⟩
        rcases mem_insI.mp hz with rfl | hz
        · omega
        · exact h1 z hz
theorem mem_ssI {k : Int} : ∀ {ns : List Int}, k ∈ ssI ns ↔ k ∈ ns
  | [] => Iff.rfl
  | n :: ns => by
    show k ∈ insI n (ssI ns) ↔ _
    rw [mem_insI, mem_ssI (ns := ns), List.mem_cons]
theorem ssI_up : ∀ ns : List Int, (ssI ns).Pairwise (· < ·)
  | [] => List.Pairwise.nil
  | n :: ns => insI_up (ssI_up ns)
theorem up_eq : ∀ {a b : List Int}, a.Pairwise (· < ·) → b.Pairwise (· < ·) → (∀ k, k ∈ a ↔ k ∈ b) → a = b
  | [], [], _, _, _ => rfl
  | [], y :: b, _, _, h => by have := (h y).mpr List.mem_cons_self; cases this
  | x :: a, [], _, _, h => by have := (h x).mp List.mem_cons_self; cases this
  | x :: a, y :: b, ha, hb, h => by
    obtain ⟨a1, a2⟩ := List.pairwise_cons.mp ha
    obtain ⟨b1, b2⟩ := List.pairwise_cons.mp hb
    have e : x = y := by
      rcases List.mem_cons.mp ((h x).mp List.mem_cons_self) with e | e
      · exact e
      · rcases List.mem_cons.mp ((h y).mpr List.mem_cons_self) with e2 | e2
        · exact e2.symm
        · have := b1 x e; have := a1 y e2; omega
    subst e
    rw [up_eq a2 b2 fun k => ?_]
    constructor
    · intro hk
      rcases List.mem_cons.mp ((h k).mp (List.mem_cons_of_mem _ hk)) with e | e
      · subst e; have := a1 k hk; omega
      · exact e
    · intro hk
      rcases List.mem_cons.mp ((h k).mpr (List.mem_cons_of_mem _ hk)) with e | e
      · subst e; have := b1 k hk; omega
      · exact e
/-! ### sorted(set(xs)) -/
section
variable {X : Cx}
def rSetL (K : PySem.W.Frag) (w : World) : List V → Hp → VK → Prop := fun vs H Q => ∃ (a : Addr) (ns : List Int), vs = [V.ref a] ∧ (SqL K H a (ns.map V.int) ∨ SqT K H a (ns.map V.int)) ∧ ns.length ≤ 4000 ∧
  ∀ p c, H p = none → c ≤ ns.length → Q (.ref p) (upd H p (SetO w p (fun j => decide (j ∈ ns)) c))
theorem cr_setL (hc : X.calm = true) : CallR X (.type "set") (rSetL X.K X.w) := by
  intro pins s σ H vs us Q I r h
  obtain ⟨a, ns, rfl, hs, hn, q⟩ := h
  rw [Vals.ref1 r]
  rcases hs with hs | hs
  · obtain ⟨its, rv, hl, hz⟩ := I.list hs
    refine PVS.set_of_list (I.ok.hd hc) hl.isList rv.ints (by unfold scanBound; omega) fun h' tk c R hcn k => ?_
    exact ⟨.ref _, upd H s.heap.objs.size (SetO X.w s.heap.objs.size (fun j => decide (j ∈ ns)) c), I.laid (t' := tk) k (Nat.le_refl _) (setO_new R), rfl, q _ c (I.hok.fresh (Nat.le_refl _)) hcn⟩
  · obtain ⟨its, rv, hl, hz⟩ := I.tuple hs
    refine call_set_tupI ns (I.ok.hd hc) (show s.heap.IsTuple a its.toArray from hl) (by simpa using rv.ints) (by unfold scanBound; omega) fun h' tk c R hcn k => ?_
    exact ⟨.ref _, upd H s.heap.objs.size (SetO X.w s.heap.objs.size (fun j => decide (j ∈ ns)) c), I.laid (t' := tk) k (Nat.le_refl _) (setO_new R), rfl, q _ c (I.hok.fresh (Nat.le_refl _)) hcn⟩
def rSortedSetN (w : World) : List V → Hp → VK → Prop := fun vs H Q => ∃ (a : Addr) (S : Int → Bool) (n : Nat), vs = [V.ref a] ∧ H a = some (SetO w a S n) ∧ n ≤ 4000 ∧
  ∀ (ns : List Int) (p : Addr), ns.Pairwise (· < ·) → (∀ k : Int, k ∈ ns ↔ S k = true) → H p = none → Q (.ref p) (upd H p (.lst (ns.map V.int)))
theorem cr_sortedSetN (hc : X.calm = true) : CallR X (.builtin "sorted") (rSortedSetN X.w) := by
  intro pins s σ H vs us Q I r h
  obtain ⟨a, S, n, rfl, ha, hn, q⟩ := h
  have R := setO_get I ha
  have zl : sizeLine = 16777216 := sizeLine_eq
  rw [Vals.ref1 r]
  refine PVS.sorted_of_set R (I.ok.hd hc) (by omega) fun s' p out c ns k g o hp hg hi hs hm hl => ?_
  have ln : (ns.map V.int).length ≤ sizeLine := by rw [List.length_map]; omega
  have np : H p = none := I.hok.fresh hp
  have J : Inv X pins σ (upd H p (.lst (ns.map V.int))) { s with heap := s'.heap, gens := s'.gens, drawn := s'.drawn, toks := s'.toks } :=
    I.call (ch := []) (Un.laid k hp np) (I.hok.laid k hp ⟨ln, out.toList, c, vals_of_ints hi, hg⟩) (by rw [g]; exact I.bare) fun _ z => nomatch z
  have e : s' = { s with heap := s'.heap, gens := s'.gens, drawn := s'.drawn, toks := s'.toks } := by
    cases s'; cases s; cases o; rfl
  rw [e]
  exact ⟨.ref p, _, J, rfl, q ns p hs hm np⟩
def eSortSet (f : DA) : DE := fun ds Q => f ds fun es ds1 => rdAll es ds1 fun xs => match xs with
  | [.list l] => intsOf l fun ns => ns.length ≤ 4000 ∧ Q (.fresh (.list ((ssI ns).map PyData.int))) ds1
  | [.tuple l] => intsOf l fun ns => ns.length ≤ 4000 ∧ Q (.fresh (.list ((ssI ns).map PyData.int))) ds1
  | _ => False
theorem ssI_of {ns out : List Int} (h1 : out.Pairwise (· < ·)) (h2 : ∀ k, k ∈ out ↔ decide (k ∈ ns) = true) : out = ssI ns :=
  up_eq h1 (ssI_up ns) fun k => by rw [h2 k, mem_ssI, decide_eq_true_eq]
variable {e : Expr} {p p2 pos pos2 : Pos} {fa : DA}
theorem pve_sortset (hc : X.calm = true) (hg : Gl X "sorted") (hm : X.mg "sorted" = none) (hg2 : Gl X "set") (hm2 : X.mg "set" = none) (ha : PVA X [e] fa)
    (he2 : starEach [e] X.env = (false, eval e X.env) :: starEach [] X.env := by rfl) (hpl2 : (backTo pos2 (starEach [] X.env)).any (·.1) = false := by rfl)
    (he : starEach [.Call (.Name "set" p2) [e] [] pos2] X.env = (false, eval (.Call (.Name "set" p2) [e] [] pos2) X.env) :: starEach [] X.env := by rfl) (hpl : (backTo pos (starEach [] X.env)).any (·.1) = false := by rfl) :
    PVE X (.Call (.Name "sorted" p) [.Call (.Name "set" p2) [e] [] pos2] [] pos) (eSortSet fa) := by
  obtain ⟨t, h1, h2⟩ := ha
  have inner := pe_callTy (p := p2) (pos := pos2) (cr_setL hc) hg2 hm2 PyProof.Rows.boot_set h1 (by decide) (by decide) he2 hpl2
  refine ⟨_, pe_callB (cr_sortedSetN hc) hg hm (by decide +kernel) (pa_cons inner pa_nil he) (by decide) (by decide) he hpl, fun G ds σ H DQ Q R hf k => ?_⟩
  refine h2 G ds σ H _ _ R hf fun es ds1 vs G1 H1 q1 R1 x1 r1 => ?_
  obtain ⟨xs, s1, q2⟩ := rdAll_sh R1 r1 q1
  have fin : ∀ (a : Addr) (ns : List Int), vs = [V.ref a] → (SqL X.K H1 a (ns.map V.int) ∨ SqT X.K H1 a (ns.map V.int)) → ns.length ≤ 4000 → DQ (.fresh (.list ((ssI ns).map PyData.int))) ds1 →
      rSetL X.K X.w vs H1 fun x H2 => tNil σ H2 fun xs H3 => rSortedSetN X.w (x :: xs) H3 Q := by
    intro a ns ev hs hl q
    refine ⟨a, ns, ev, hs, hl, fun p1 c n1 hcn => ⟨p1, _, c, rfl, upd_same, by omega, fun out p3 o1 o2 n3 => ?_⟩⟩
    rw [ssI_of o1 o2]
    obtain ⟨z1, z2, z3, z4⟩ := new_list (R1.updO n1) (DpAll.ints (ssI ns)) n3
    exact k _ _ _ _ _ q z1 (x1.trans ((Ext.updO (G := G1) n1).trans z2)) z3 (x1.back ((Ext.updO (G := G1) n1).back z4))
  split at q2
  · obtain ⟨v, rfl, s⟩ := sha1 s1
    obtain ⟨ns, rfl, hl, q⟩ := intsOf_e q2
    obtain ⟨a, vs, rfl, q5, q6⟩ := s.list R1.sub
    rw [q6.intsV] at q5
    exact fin a ns rfl (.inl q5) hl q
  · obtain ⟨v, rfl, s⟩ := sha1 s1
    obtain ⟨ns, rfl, hl, q⟩ := intsOf_e q2
    obtain ⟨a, vs, rfl, q5, q6⟩ := s.tuple R1.sub
    rw [q6.intsV] at q5
    exact fin a ns rfl (.inr q5) hl q
  · exact q2.elim
end
end PV
end
section
set_option Elab.async false
set_option linter.all false
set_option maxRecDepth 100000
set_option maxHeartbeats 4000000
/-! enumerate of a list; min of a tuple; a op b op c; whole numbers of the module -/
namespace PV
open PySem PySem.W PyProof.Rows L2
def enumD : Nat → List D → List D
  | _, [] => []
  | i, x :: xs => .tuple [.int (i : Int), x] :: enumD (i + 1) xs
theorem enumD_get : ∀ {xs : List D} {i k : Nat} {d : D}, (enumD i xs)[k]? = some d → ∃ x, xs[k]? = some x ∧ d = .tuple [.int ((i + k : Nat) : Int), x]
  | x :: xs, i, 0, d, h => by
    simp [enumD] at h
    exact ⟨x, rfl, h.symm⟩
  | x :: xs, i, k + 1, d, h => by
    simp only [enumD, List.getElem?_cons_succ] at h ⊢
    obtain ⟨y, e, q⟩ := enumD_get h
    exact ⟨y, e, by rw [q, show i + 1 + k = i + (k + 1) by omega]⟩
  | [], _, k, d, h => by simp [enumD] at h
theorem enumD_len : ∀ {xs : List D} {i : Nat}, (enumD i xs).length = xs.length
  | [], _ => rfl
  | x :: xs, i => by simp only [enumD, List.length_cons, enumD_len (xs := xs)]
section
variable {X : Cx} {tg e : Expr} {pn : List Nat} {pos : Pos}
theorem iten_ok {σ : L2.St} {G : Hp} {a : Addr} {vs : List V} {xs : List D} (h : SqL X.K G a vs) (p : DpAll X.K G vs xs) : ItOk X.K pn σ G ⟨enumD 0 xs, none⟩ (Ite X.K a) := by
  intro G1 ds1 σ1 H1 R1 s _ _
  have h1 : SqL X.K H1 a vs := SqL.mo (s.trans R1.sub) h
  refine ⟨⟨vs, h1, by rw [p.len, enumD_len]; exact Nat.le_refl _⟩, fun k d e => ?_⟩
  obtain ⟨x, e1, rfl⟩ := enumD_get e
  obtain ⟨v, f1, f2⟩ := p.get e1
  refine ⟨⟨vs, v, h1, f1⟩, fun v' H' q => ?_⟩
  obtain ⟨T, v2, rfl, hn, rfl, q1⟩ := q
  have q1 := q1 vs h1
  rw [f1] at q1; cases q1
  obtain ⟨z1, z2, z3⟩ := new_tup R1 (vs := [.int (k : Nat), v]) (es := [.int ((0 + k : Nat) : Int), x]) (.cons (by rw [Nat.zero_add]; exact .int _) (.cons (Dp.mo s _ _ f2) .nil)) hn
  exact ⟨_, z1, z2, z3⟩
def iEnu (f : DA) : DI := fun ds Q => f ds fun es ds1 => frzAll es ds1 fun xs ds2 => match xs with
  | [.list a] => Q ⟨enumD 0 a, none⟩ ds2
  | _ => False
variable {a : Expr} {p : Pos} {fa : DA}
theorem pvi_enum {elts : List Expr} {kk : Nat} {tpos : Pos} (hg : Gl X "enumerate") (hm : X.mg "enumerate" = none) (ha : PVA X [a] fa) (hs : starEach [a] X.env = [(false, eval a X.env)] := by rfl) :
    PVI X pn (.Tuple elts kk tpos) (.Call (.Name "enumerate" p) [a] [] pos) (iEnu fa) := by
  obtain ⟨t, h1, h2⟩ := ha
  refine ⟨_, pi_enum hg hm h1 hs, fun G ds σ H DQ R RR hf k => h2 G ds σ H _ _ RR hf fun es ds1 vs G1 H1 q1 R1 x1 r1 => ?_⟩
  obtain ⟨xs, ds2, G2, q2, R2, p2, x2⟩ := frzAll_ok R1 r1 q1
  split at q2
  · cases p2 with
    | cons u1 r =>
      cases r
      cases u1 with
      | lst s1 a1 => exact ⟨_, _, rfl, SqL.mo R2.sub s1, k _ _ _ _ _ q2 R2 (x1.trans x2) (iten_ok s1 a1)⟩
  · exact q2.elim
/-! ### min(t) -/
def rMinT (K : PySem.W.Frag) : List V → Hp → VK → Prop := fun vs H Q => ∃ (a : Addr) (ns : List Int), vs = [V.ref a] ∧ SqT K H a (ns.map V.int) ∧ 0 < ns.length ∧ ∀ m, m ∈ ns → (∀ y, y ∈ ns → m ≤ y) → Q (.int m) H
theorem cr_minT (hc : X.calm = true) : CallR X (.builtin "min") (rMinT X.K) := by
  intro pins s σ H vs us Q I r h
  obtain ⟨a, ns, rfl, hs, hne, q⟩ := h
  obtain ⟨its, rv, hl, _⟩ := I.tuple hs
  rw [Vals.ref1 r]
  exact PVS.min_of_tuple (I.ok.hd hc) (show s.heap.IsTuple a its.toArray from hl) rv.ints hne fun h' tk m t' hk h1 h2 => ⟨.int _, H, I.kept hk, ⟨_, rfl⟩, q m h1 h2⟩
def cMin2 : DC := fun xs Q => match xs with
  | [.list l] => intsOf l fun ns => ns ≠ [] ∧ Q (.val (.int (leastI ns)))
  | [.tuple l] => intsOf l fun ns => ns ≠ [] ∧ Q (.val (.int (leastI ns)))
  | [.int a, .int b] => Q (.val (.int (if b < a then b else a)))
  | _ => False
theorem cv_min2 (hc : X.calm = true) : CallV X (.builtin "min") cMin2 := by
  refine ⟨_, CallR.or (CallR.or (cr_min hc) (cr_minT hc)) (call_min2 hc), fun G ds σ H vs xs DQ Q R sh hq k => ?_⟩
  unfold cMin2 at hq
  split at hq
  · obtain ⟨v, rfl, s⟩ := sha1 sh
    obtain ⟨ns, rfl, h0, q⟩ := intsOf_e hq
    obtain ⟨a, vs, rfl, q5, q6⟩ := s.list R.sub
    rw [q6.intsV] at q5
    refine .inl (.inl ⟨a, ns, rfl, q5, List.length_pos_iff.mpr h0, fun m h1 h2 => ?_⟩)
    rw [least_uniq h1 h2]
    exact k _ _ _ _ q R (Ext.refl ..) (.int _) trivial
  · obtain ⟨v, rfl, s⟩ := sha1 sh
    obtain ⟨ns, rfl, h0, q⟩ := intsOf_e hq
    obtain ⟨a, vs, rfl, q5, q6⟩ := s.tuple R.sub
    rw [q6.intsV] at q5
    refine .inl (.inr ⟨a, ns, rfl, q5, List.length_pos_iff.mpr h0, fun m h1 h2 => ?_⟩)
    rw [least_uniq h1 h2]
    exact k _ _ _ _ q R (Ext.refl ..) (.int _) trivial
  · obtain ⟨v, w, rfl, s1, s2⟩ := sha2 sh
    exact .inr ⟨_, _, by rw [s1.int, s2.int], k _ _ _ _ hq R (Ext.refl ..) (.int _) trivial⟩
  · exact hq.elim
/-! ### a whole number of the module -/
theorem pve_glob {x : Str} {i : Int} {tk : Tok} {q : Pos} (hg : Gl X x) (hm : X.mg x = some (.int i tk)) (hd : (x == ("__debug__" : Str)) = false := by decide) : PVE X (.Name x q) (eC (.int i)) :=
  pve_c (pe_glob (v := .int i) hg hm ⟨tk, rfl⟩ hd) fun _ => .int i
/-! ### a op b op c, whole numbers -/
def tChI (c1 c2 : Int → Int → Bool) (f g h : DE) : DT := fun ds Q => f ds fun e1 ds1 => g ds1 fun e2 ds2 => rd (nm e1) ds2 fun d1 => rd e2 ds2 fun d2 => match d1, d2 with
  | .int a, .int b => br (c1 a b) (h ds2 fun e3 ds3 => rd e3 ds3 fun d3 => match d3 with | .int c => Q (c2 b c) ds3 | _ => False) (Q false ds2)
  | _, _ => False
abbrev rI (c : Int → Int → Bool) : R2 := fun x y H Q => ∃ i j, x = .int i ∧ y = .int j ∧ Q (.bl (c i j)) H
theorem pvt_chain {op op' : CmpOp} {c1 c2 : Int → Int → Bool} {a b c : Expr} {f g h : DE} (ho : OpR X (compareOp op) (rI c1)) (ho' : OpR X (compareOp op') (rI c2)) (ha : PVE X a f) (hb : PVE X b g) (hc : PVE X c h)
    (hm : lastMarks [op, op'] [b, c] = false := by with_unfolding_all rfl) : PVT X (.Compare a [op, op'] [b, c] pos) (tChI c1 c2 f g h) := by
  obtain ⟨ta, tb, h1, h2, hk⟩ := bin_ok ha hb
  obtain ⟨tc, h3, h4⟩ := hc
  refine ⟨_, pt_chain ho ho' h1 h2 h3 hm, fun G ds σ H DQ Q R hf k => ?_⟩
  refine hk G ds σ H _ (fun x y H2 => rI c1 x y H2 fun z H3 => ∃ k, z = .bl k ∧ (if k = true then tc σ H3 fun w' H4 => rI c2 y w' H4 fun x H' => ∃ k, x = .bl k ∧ Q k H' else ∃ k, V.bl false = .bl k ∧ Q k H3)) R hf fun x y d1 d2 ds' G' H' q R' x' sx sy => ?_
  split at q
  · rename_i a b
    refine ⟨a, b, sx.int, sy.int, c1 a b, rfl, ?_⟩
    cases hb : c1 a b with
    | true =>
      rw [hb] at q
      rw [if_pos rfl]
      refine h4 G' ds' σ H' _ _ R' q fun e3 ds3 v3 G3 H3 q3 R3 x3 r3 n3 => ?_
      obtain ⟨d3, s3, q4⟩ := rd_sh R3 r3 q3
      split at q4
      · rename_i c
        exact ⟨b, c, sy.int, s3.int, c2 b c, rfl, k _ _ _ _ q4 R3 (x'.trans x3)⟩
      · exact q4.elim
    | false =>
      rw [hb] at q
      rw [if_neg Bool.false_ne_true]
      exact ⟨false, rfl, k _ _ _ _ q R' x'⟩
  · exact q.elim
end
end PV
end
section
set_option Elab.async false
set_option linter.all false
set_option maxRecDepth 100000
set_option maxHeartbeats 4000000
/-! common: comprehensions by a function of the item, turns of loops -/
namespace PV
open PySem L2
def iD (w : List Int) : List D := w.map PyData.int
theorem iD_len (w : List Int) : (iD w).length = w.length := by simp [iD]
theorem iD_app (a b : List Int) : iD (a ++ b) = iD a ++ iD b := by simp [iD]
theorem iD_get {w : List Int} {i : Nat} (h : i < w.length) : (iD w)[i]? = some (.int (w.getD i 0)) := by
  unfold iD
  rw [List.getElem?_map, List.getElem?_eq_getElem h]
  simp [List.getD, h]
theorem mem_iD {w : List Int} {d : D} (h : d ∈ iD w) : ∃ x ∈ w, d = .int x := by
  obtain ⟨x, h1, h2⟩ := List.mem_map.mp h
  exact ⟨x, h1, h2.symm⟩
theorem rngD_iD (lo : Int) (n : Nat) : rngD lo n = iD ((List.range n).map fun i : Nat => lo + (i : Int)) := by
  unfold rngD iD
  rw [List.map_map]
  rfl
theorem gN_i {i : Nat} {x : D} {ds ds' : DS} {C : DS → Prop} (e : ds.set i (.fz x) = ds') (h : C ds') : gN i x ds C := by subst e; exact h
/-- a comprehension with a test: item and test by the item -/
theorem lcGo_fy {ok : DS → Prop → Prop} {vs : List Nat} {g : DG} {tt : DT} {te : DF} {all : List D} {Q : List D → DS → Prop} {ds : DS} (p : D → Bool) (f : D → D) (hok : ∀ P, P → ok ds P)
    (h : ∀ x ∈ all, ∀ (A : D → DS → Prop) (B : DS → Prop), (p x = true → A (f x) ds) → (p x = false → B ds) → g x (wipD ds vs) fun ds1 => tt ds1 fun b ds2 => br b (te ds2 fun d ds3 => A d (rstD ds vs ds3)) (B (rstD ds vs ds2))) :
    ∀ {xs acc : List D}, (∀ x ∈ xs, x ∈ all) → acc.length + xs.length ≤ 16777216 → Q (acc ++ (xs.filter p).map f) ds → lcGo ok vs g tt te xs acc ds Q
  | [], acc, _, _, q => by
    refine hok _ ?_
    rw [List.filter_nil, List.map_nil, List.append_nil] at q; exact q
  | x :: xs, acc, hm, hz, q => by
    rw [List.length_cons] at hz
    refine hok _ (h x (hm x List.mem_cons_self) (fun d ds3 => acc.length < 16777216 ∧ lcGo ok vs g tt te xs (acc ++ [d]) ds3 Q) (fun ds3 => lcGo ok vs g tt te xs acc ds3 Q) (fun hp => ⟨by omega, ?_⟩) fun hp => ?_)
    · exact lcGo_fy p f hok h (fun y hy => hm y (List.mem_cons_of_mem _ hy)) (by rw [List.length_append, List.length_singleton]; omega) (by rw [List.filter_cons_of_pos hp, List.map_cons] at q; rw [List.append_assoc]; exact q)
    · exact lcGo_fy p f hok h (fun y hy => hm y (List.mem_cons_of_mem _ hy)) (by omega) (by rw [List.filter_cons_of_neg (by rw [hp]; exact Bool.false_ne_true)] at q; exact q)
theorem lcGo_fx {ok : DS → Prop → Prop} {vs : List Nat} {g : DG} {tt : DT} {te : DF} {all : List D} {Q : List D → DS → Prop} {ds : DS} (f : D → D) (hok : ∀ P, P → ok ds P)
    (h : ∀ x ∈ all, ∀ (A : D → DS → Prop) (B : DS → Prop), A (f x) ds → g x (wipD ds vs) fun ds1 => tt ds1 fun b ds2 => br b (te ds2 fun d ds3 => A d (rstD ds vs ds3)) (B (rstD ds vs ds2)))
    {xs acc : List D} (hm : ∀ x ∈ xs, x ∈ all) (hz : acc.length + xs.length ≤ 16777216) (q : Q (acc ++ xs.map f) ds) : lcGo ok vs g tt te xs acc ds Q :=
  lcGo_fy (fun _ => true) f hok (fun x hx A B hA _ => h x hx A B (hA rfl)) hm hz (by rw [List.filter_eq_self.mpr fun _ _ => rfl]; exact q)
theorem dInt (a b : Int) : min (PyData.int a).depth (PyData.int b).depth ≤ 60 := by simp [depth_int]
theorem dStr (a b : Str) : min (PyData.str a).depth (PyData.str b).depth ≤ 60 := by simp [depth_str]
theorem okRg_n {n : Nat} (h : n ≤ 1000000) : okRg 0 (n : Int) := by unfold okRg bnd62; omega
theorem rng0 (n : Nat) : rngD 0 ((n : Int) - 0).toNat = natD (List.range n) := by rw [Int.sub_zero, Int.toNat_natCast, rngD_nat]
theorem natD_len (l : List Nat) : (natD l).length = l.length := by simp [natD]
theorem cpow12 : CPow 10 12 := by unfold CPow; decide
theorem cpow6 : CPow 10 6 := by unfold CPow; decide
end PV
end
section
set_option Elab.async false
set_option linter.all false
set_option maxRecDepth 100000
set_option maxHeartbeats 4000000
namespace K60
open PySem L2 PV
def b_probe_values : DSt :=
  (sSeq (sSet 2 (eSortSet (aCons (eVar 0) aNil)))
    (sSeq (sIf (tB (eOp oEq (eBi cLen (aCons (eVar 2) aNil)) (eC (.int 0)))) (sRet [0, 1] (eTRg (rg1 (eVar 1)))) sNil)
    (sSeq (sSet 3 (eLc (iRange2 (aCons (eOp oSub (eIx (eVar 2) (eC (.int 0))) (eVar 1)) (aCons (eIx (eVar 2) (eC (.int 0))) aNil))) [4] (gN 4) (tB (eOp oGe (eVar 4) (eNeg (eC (.int 1000000000000))))) (eFz (eVar 4))))
    (sSeq (sFor (iEnu (aCons (eVar 2) aNil)) (gT 2 (gCs (gN 5) (gCs (gN 4) gNl))) (sSeq (sSet 6 (eIf (tB (eOp oLt (eOp oAdd (eVar 5) (eC (.int 1))) (eBi cLen (aCons (eVar 2) aNil)))) (eOp oSub (eIx (eVar 2) (eOp oAdd (eVar 5) (eC (.int 1)))) (eC (.int 1))) (eC (.int 1000000000000))))
    (sSeq (sEx (eMut 3 mApp (aCons (eVar 4) aNil)))
    (sFor (iRange2 (aCons (eC (.int 1)) (aCons (eOp oAdd (eVar 1) (eC (.int 1))) aNil))) (gN 7) (sIf (tB (eOp oLe (eOp oAdd (eVar 4) (eVar 7)) (eVar 6))) (sEx (eMut 3 mApp (aCons (eOp oAdd (eVar 4) (eVar 7)) aNil))) sNil)))))
    (sRet [0, 1] (eBi cTuple (aCons (eVar 3) aNil)))))))
@[irreducible] def m_probe_values : DSp := runF [true, true] 6 b_probe_values
def b_L_far : DSt :=
  (sRet [0] (eOp oMul (eOp oAdd (eOp oMul (eCall m_L_draw 2 [true, false] (aCons (eVar 0) (aCons (eOp oPow (eC (.int 10)) (eC (.int 6))) aNil))) (eOp oPow (eC (.int 10)) (eC (.int 6)))) (eCall m_L_draw 2 [true, false] (aCons (eVar 0) (aCons (eOp oPow (eC (.int 10)) (eC (.int 6))) aNil)))) (eOp oSub (eC (.int 1)) (eOp oMul (eC (.int 2)) (eCall m_L_draw 2 [true, false] (aCons (eVar 0) (aCons (eC (.int 2)) aNil)))))))
@[irreducible] def m_L_far : DSp := runF [true] 0 b_L_far
def b_L_within : DSt :=
  (sRet [0] (eBi cMax (aCons (eNeg (eOp oPow (eC (.int 10)) (eC (.int 12)))) (aCons (eBi cMin2 (aCons (eOp oPow (eC (.int 10)) (eC (.int 12))) (aCons (eVar 0) aNil))) aNil))))
@[irreducible] def m_L_within : DSp := runF [true] 0 b_L_within
def b_L_given : DSt :=
  (sSeq (sSet 1 (eLst aNil))
    (sSeq (sFor (iRange1 (aCons (eIf (tB (eOp oEq (eCall m_L_draw 2 [true, false] (aCons (eVar 0) (aCons (eC (.int 16)) aNil))) (eC (.int 9)))) (eC (.int 30)) (eCall m_L_draw 2 [true, false] (aCons (eVar 0) (aCons (eC (.int 9)) aNil)))) aNil)) (gN 2) (sSeq (sSet 3 (eCall m_L_draw 2 [true, false] (aCons (eVar 0) (aCons (eC (.int 8)) aNil))))
    (sIf (tB (eOp oLt (eVar 3) (eC (.int 3)))) (sEx (eMut 1 mApp (aCons (eOp oSub (eCall m_L_draw 2 [true, false] (aCons (eVar 0) (aCons (eC (.int 12)) aNil))) (eC (.int 4))) aNil))) (sIf (tB (eOp oEq (eVar 3) (eC (.int 3)))) (sEx (eMut 1 mApp (aCons (eOp oSub (eOp oPow (eC (.int 10)) (eC (.int 12))) (eCall m_L_draw 2 [true, false] (aCons (eVar 0) (aCons (eC (.int 9)) aNil)))) aNil))) (sIf (tB (eOp oEq (eVar 3) (eC (.int 4)))) (sEx (eMut 1 mApp (aCons (eOp oSub (eCall m_L_draw 2 [true, false] (aCons (eVar 0) (aCons (eC (.int 9)) aNil))) (eOp oPow (eC (.int 10)) (eC (.int 12)))) aNil))) (sIf (tAnd (tB (eOp oLt (eVar 3) (eC (.int 7)))) (tB (eOp oGt (eBi cLen (aCons (eVar 1) aNil)) (eC (.int 0))))) (sEx (eMut 1 mApp (aCons (eCall m_L_within 1 [false] (aCons (eOp oSub (eOp oAdd (eCall m_L_pick 2 [true, true] (aCons (eVar 0) (aCons (eVar 1) aNil))) (eCall m_L_draw 2 [true, false] (aCons (eVar 0) (aCons (eC (.int 13)) aNil)))) (eC (.int 6))) aNil)) aNil))) (sEx (eMut 1 mApp (aCons (eCall m_L_far 1 [true] (aCons (eVar 0) aNil)) aNil)))))))))
    (sRet [0] (eBi cTuple (aCons (eVar 1) aNil)))))
@[irreducible] def m_L_given : DSp := runF [true] 3 b_L_given
def b_L_unknown : DSt :=
  (sSeq (sSet 2 (eCall m_L_draw 2 [true, false] (aCons (eVar 0) (aCons (eC (.int 6)) aNil))))
    (sSeq (sIf (tAnd (tB (eOp oLt (eVar 2) (eC (.int 4)))) (tB (eOp oGt (eBi cLen (aCons (eVar 1) aNil)) (eC (.int 0))))) (sRet [0, 1] (eCall m_L_within 1 [false] (aCons (eOp oSub (eOp oAdd (eCall m_L_pick 2 [true, true] (aCons (eVar 0) (aCons (eVar 1) aNil))) (eCall m_L_draw 2 [true, false] (aCons (eVar 0) (aCons (eC (.int 9)) aNil)))) (eC (.int 4))) aNil))) sNil)
    (sSeq (sIf (tB (eOp oEq (eVar 2) (eC (.int 4)))) (sRet [0, 1] (eCall m_L_pick 2 [true, false] (aCons (eVar 0) (aCons (eLst (aCons (eOp oPow (eC (.int 10)) (eC (.int 12))) (aCons (eNeg (eOp oPow (eC (.int 10)) (eC (.int 12)))) (aCons (eC (.int 0)) aNil)))) aNil)))) sNil)
    (sRet [0, 1] (eCall m_L_far 1 [true] (aCons (eVar 0) aNil))))))
@[irreducible] def m_L_unknown : DSp := runF [true, true] 1 b_L_unknown
def b_L_own_values : DSt :=
  (sSeq (sIf (tB (eOp oEq (eBi cLen (aCons (eVar 0) aNil)) (eC (.int 0)))) (sRet [0, 1] (eLRg (rg1 (eVar 1)))) sNil)
    (sSeq (sSet 2 (eLc (iRange1 (aCons (eVar 1) aNil)) [3] (gN 3) tTrue (eFz (eOp oSub (eOp oSub (eBi cMin2 (aCons (eVar 0) aNil)) (eC (.int 1))) (eVar 3)))))
    (sSeq (sFor (iSlot 0) (gN 4) (sSet 2 (eOp oAdd (eVar 2) (eLc (iRange1 (aCons (eOp oAdd (eVar 1) (eC (.int 1))) aNil)) [3] (gN 3) tTrue (eFz (eOp oAdd (eVar 4) (eVar 3)))))))
    (sRet [0, 1] (eLc (iFz (eSortSet (aCons (eVar 2) aNil))) [5] (gN 5) (tChI (fun a b => decide (a ≤ b)) (fun a b => decide (a ≤ b)) (eNeg (eOp oPow (eC (.int 10)) (eC (.int 12)))) (eVar 5) (eOp oPow (eC (.int 10)) (eC (.int 12)))) (eFz (eVar 5)))))))
@[irreducible] def m_L_own_values : DSp := runF [true, true] 4 b_L_own_values
def b_L_spot : DSt :=
  (sRet [0, 1] (eTup (aCons (eBi cLen (aCons (eLc (iSlot 0) [2] (gN 2) (tB (eOp oLt (eVar 2) (eVar 1))) (eFz (eVar 2))) aNil)) (aCons (eOp oIn (eVar 1) (eVar 0)) aNil))))
@[irreducible] def m_L_spot : DSp := runF [true, true] 1 b_L_spot
def b_L_sign : DSt :=
  (sRet [0, 1] (eOp oSub (eBi cInt (aCons (eOp oGt (eVar 0) (eVar 1)) aNil)) (eBi cInt (aCons (eOp oLt (eVar 0) (eVar 1)) aNil))))
@[irreducible] def m_L_sign : DSp := runF [true, true] 0 b_L_sign
def b_L_is_like : DSt :=
  (sSeq (sSet 3 (eBi cLen (aCons (eVar 0) aNil)))
    (sRet [0, 1, 2] (eBi cAll (aCons (eLc (iRange1 (aCons (eVar 3) aNil)) [4] (gN 4) tTrue (eFz (eOp oEq (eCall m_L_sign 2 [false, true] (aCons (eIx (eVar 0) (eVar 4)) (aCons (eVar 1) aNil))) (eCall m_L_sign 2 [false, false] (aCons (eIx (eVar 2) (eVar 4)) (aCons (eIx (eVar 2) (eVar 3)) aNil)))))) aNil))))
@[irreducible] def m_L_is_like : DSp := runF [true, true, true] 2 b_L_is_like
def b_L_has_order : DSt :=
  (sSeq (sSet 4 (eLst (aCons (eTup aNil) aNil)))
    (sSeq (sFor (iRange1 (aCons (eBi cLen (aCons (eVar 3) aNil)) aNil)) (gN 5) (sSeq (sSet 6 (eCall m_L_spot 2 [true, false] (aCons (eVar 0) (aCons (eIx (eVar 3) (eVar 5)) aNil))))
    (sSeq (sSet 7 (eLc (iRange1 (aCons (eBi cLen (aCons (eVar 1) aNil)) aNil)) [8] (gN 8) (tB (eOp oEq (eIx (eVar 2) (eVar 8)) (eVar 6))) (eFz (eIx (eVar 1) (eVar 8)))))
    (sSeq (sSet 9 (eLst aNil))
    (sSeq (sFor (iSlot 4) (gN 10) (sSet 9 (eOp oAdd (eVar 9) (eLc (iSlot 7) [11] (gN 11) (tTr (eCall m_L_is_like 3 [true, true, true] (aCons (eVar 10) (aCons (eVar 11) (aCons (eVar 3) aNil))))) (eFz (eOp oAdd (eVar 10) (eTup (aCons (eVar 11) aNil))))))))
    (sSet 4 (eVar 9)))))))
    (sRet [0, 1, 2, 3] (eOp oGt (eBi cLen (aCons (eVar 4) aNil)) (eC (.int 0))))))
@[irreducible] def m_L_has_order : DSp := runF [true, true, true, true] 8 b_L_has_order
def b_L_lot : DSt :=
  (sSeq (sSet 1 (eCall m_L_given 1 [true] (aCons (eVar 0) aNil)))
    (sSeq (sSet 2 (eIf (tB (eOp oEq (eCall m_L_draw 2 [true, false] (aCons (eVar 0) (aCons (eC (.int 8)) aNil))) (eC (.int 5)))) (eCall m_L_draw 2 [true, false] (aCons (eVar 0) (aCons (eC (.int 17)) aNil))) (eCall m_L_draw 2 [true, false] (aCons (eVar 0) (aCons (eC (.int 7)) aNil)))))
    (sSeq (sSet 3 (eLst aNil))
    (sSeq (sFor (iRange1 (aCons (eC (.int 3)) aNil)) (gN 4) (sEx (eMut 3 mApp (aCons (eLc (iRange1 (aCons (eBi cMin2 (aCons (eVar 2) (aCons (eC (.int 3)) aNil))) aNil)) [5] (gN 5) tTrue (eFz (eCall m_L_unknown 2 [true, true] (aCons (eVar 0) (aCons (eVar 1) aNil))))) aNil))))
    (sRet [0] (eTup (aCons (eVar 1) (aCons (eVar 2) (aCons (eVar 3) aNil)))))))))
@[irreducible] def m_L_lot : DSp := runF [true] 5 b_L_lot
def b_law : DSt :=
  (sSeq (sSet 1 (eCall m_L_begin 1 [true] (aCons (eVar 0) aNil)))
    (sSeq (sSet 2 (eCall m_L_lot 1 [true] (aCons (eVar 1) aNil)))
    (sSeq (sSet 3 (eCall m_L_lot 1 [true] (aCons (eVar 1) aNil)))
    (sSeq (sFor (iFz (eLst (aCons (eVar 2) (aCons (eVar 3) (aCons (eVar 2) aNil))))) (gT 3 (gCs (gN 4) (gCs (gN 5) (gCs (gN 6) gNl)))) (sSeq (sSet 7 (eCall m_probe_values 2 [true, true] (aCons (eVar 4) (aCons (eVar 5) aNil))))
    (sSeq (sIf (tOr (tNot (tTr (eCall m_L_is_ints 1 [true] (aCons (eVar 7) aNil)))) (tB (eOp oNe (eBi cList (aCons (eVar 7) aNil)) (eCall m_L_own_values 2 [true, true] (aCons (eVar 4) (aCons (eVar 5) aNil)))))) (sRet [0] (eC (.bool false))) sNil)
    (sSeq (sSet 8 (eLc (iSlot 7) [9] (gN 9) tTrue (eFz (eCall m_L_spot 2 [true, true] (aCons (eVar 4) (aCons (eVar 9) aNil))))))
    (sFor (iSlot 6) (gN 10) (sIf (tNot (tTr (eCall m_L_has_order 4 [true, true, true, true] (aCons (eVar 4) (aCons (eVar 7) (aCons (eVar 8) (aCons (eVar 10) aNil))))))) (sRet [0, 6] (eC (.bool false))) sNil))))))
    (sRet [0] (eC (.bool true)))))))
@[irreducible] def m_law : DSp := runF [true] 10 b_law
end K60
end
section
set_option Elab.async false
set_option linter.all false
set_option maxRecDepth 100000
set_option maxHeartbeats 4000000
namespace K60
open PySem L2 PV
local macro_rules | `(tactic| walk_at "w") => `(tactic| (conv => whnf))
def FARi : Int := 1000000000000
def lowsL (m : Nat) (k0 : Int) : List Int := ((List.range m).map fun i : Nat => (k0 - (m : Int)) + (i : Int)).filter fun x => decide (-FARi ≤ x)
def stepsL (k last : Int) (m : Nat) : List Int := ((List.range m).map fun i : Nat => k + (1 + (i : Int))).filter fun x => decide (x ≤ last)
def lastL (kn : List Int) (i : Nat) : Int := if i + 1 < kn.length then kn.getD (i + 1) 0 - 1 else FARi
def blockL (kn : List Int) (m i : Nat) : List Int := kn.getD i 0 :: stepsL (kn.getD i 0) (lastL kn i) m
def pvL (g : List Int) (m : Nat) : List Int := if ssI g = [] then (List.range m).map fun i : Nat => (i : Int) else lowsL m ((ssI g).getD 0 0) ++ (List.range (ssI g).length).flatMap (blockL (ssI g) m)
theorem pr_1 {T : DSt} {E : DEn} {g : List Int} {s1 s2 s3 s4 s5 s6 s7 : Sl} (hg : g.length ≤ 100) (k : T E [.fz (.tuple (iD g)), s1, .ow (.list (iD (ssI g))), s3, s4, s5, s6, s7]) :
    (sSeq (sSet 2 (eSortSet (aCons (eVar 0) aNil))) T) E [.fz (.tuple (iD g)), s1, s2, s3, s4, s5, s6, s7] := by
  show intsOf (g.map PyData.int) _
  refine intsOf_map.mpr ⟨by omega, ?_⟩
  exact k
theorem pr_2a {T : DSt} {E : DEn} {m : Nat} {s0 s3 s4 s5 s6 s7 : Sl} (hm : m ≤ 100) (k : E.rt (.val (.tuple (iD ((List.range m).map fun i : Nat => (i : Int))))) [s0, .fz (.int (m : Int)), .ow (.list []), s3, s4, s5, s6, s7]) :
    (sSeq (sIf (tB (eOp oEq (eBi cLen (aCons (eVar 2) aNil)) (eC (.int 0)))) (sRet [0, 1] (eTRg (rg1 (eVar 1)))) sNil) T) E [s0, .fz (.int (m : Int)), .ow (.list []), s3, s4, s5, s6, s7] := by
  walk_at "w"
  refine oEq_i true (eqv_int 0 0) (dInt _ _) ?_
  walk_at "w"
  refine ⟨okRg_n (by omega), ?_⟩
  walk_at "w"
  have e : rngD 0 ((m : Int) - 0).toNat = iD ((List.range m).map fun i : Nat => (i : Int)) := by
    rw [Int.sub_zero, Int.toNat_natCast, rngD_iD]
    congr 1
    exact List.map_congr_left fun i _ => Int.zero_add _
  rw [e]
  exact k
theorem pr_2b {T : DSt} {E : DEn} {kn : List D} {s0 s1 s3 s4 s5 s6 s7 : Sl} (h0 : kn ≠ []) (k : T E [s0, s1, .ow (.list kn), s3, s4, s5, s6, s7]) :
    (sSeq (sIf (tB (eOp oEq (eBi cLen (aCons (eVar 2) aNil)) (eC (.int 0)))) (sRet [0, 1] (eTRg (rg1 (eVar 1)))) sNil) T) E [s0, s1, .ow (.list kn), s3, s4, s5, s6, s7] := by
  have := List.length_pos_iff.mpr h0
  walk_at "w"
  refine oEq_i false (by rw [eqv_int]; exact decide_eq_false (by omega)) (dInt _ _) ?_
  exact k
theorem pr_3t {x : D} {i : Int} {s0 s1 s2 s3 s4 s5 s6 s7 : Sl} {A : D → DS → Prop} {B : DS → Prop} (hA : decide (-FARi ≤ i) = true → A (.int i) [s0, s1, s2, s3, s4, s5, s6, s7]) (hB : decide (-FARi ≤ i) = false → B [s0, s1, s2, s3, s4, s5, s6, s7]) :
    gN 4 (.int i) (wipD [s0, s1, s2, s3, s4, s5, s6, s7] [4]) fun ds1 => ((tB (eOp oGe (eVar 4) (eNeg (eC (.int 1000000000000)))))) ds1 fun b ds2 => br b ((eFz (eVar 4)) ds2 fun d ds3 => A d (rstD [s0, s1, s2, s3, s4, s5, s6, s7] [4] ds3)) (B (rstD [s0, s1, s2, s3, s4, s5, s6, s7] [4] ds2)) := by
  walk_at "w"
  exact br_i hA hB
theorem pr_3g {l : List Int} {s0 s1 s2 s3 s4 s5 s6 s7 : Sl} {Pq : List D → DS → Prop} (hlen : l.length ≤ 1000) (k : Pq (iD (l.filter fun x => decide (-FARi ≤ x))) [s0, s1, s2, s3, s4, s5, s6, s7]) :
    lcGo (guard none (iD l)) [4] (gN 4) ((tB (eOp oGe (eVar 4) (eNeg (eC (.int 1000000000000)))))) (eFz (eVar 4)) (iD l) [] [s0, s1, s2, s3, s4, s5, s6, s7] Pq := by
  refine lcGo_fy (all := iD l) (fun d => match d with | .int i => decide (-FARi ≤ i) | _ => false) (fun d => d) (fun P p => p) (fun d hd A B hA hB => ?_) (fun _ h => h) (by rw [iD_len]; simp only [List.length_nil]; omega) ?_
  · obtain ⟨x, _, rfl⟩ := mem_iD hd
    exact pr_3t (x := .none) hA hB
  · rw [List.nil_append, List.map_id']
    have e : (iD l).filter (fun d => match d with | .int i => decide (-FARi ≤ i) | _ => false) = iD (l.filter fun x => decide (-FARi ≤ x)) := by
      unfold iD
      rw [List.filter_map]
      rfl
    rw [e]
    exact k
theorem pr_3 {T : DSt} {E : DEn} {m : Nat} {kn : List Int} {k0 : Int} {s0 s3 s4 s5 s6 s7 : Sl} (hm : m ≤ 100) (h0 : (iD kn)[0]? = some (.int k0)) (hb : -FARi ≤ k0 ∧ k0 ≤ FARi)
    (k : T E [s0, .fz (.int (m : Int)), .ow (.list (iD kn)), .ow (.list (iD (lowsL m k0))), s4, s5, s6, s7]) :
    (sSeq (sSet 3 (eLc (iRange2 (aCons (eOp oSub (eIx (eVar 2) (eC (.int 0))) (eVar 1)) (aCons (eIx (eVar 2) (eC (.int 0))) aNil))) [4] (gN 4) (tB (eOp oGe (eVar 4) (eNeg (eC (.int 1000000000000))))) (eFz (eVar 4)))) T) E [s0, .fz (.int (m : Int)), .ow (.list (iD kn)), s3, s4, s5, s6, s7] := by
  have hg := fun {l : List Int} {s0 s1 s2 s3 s4 s5 s6 s7 : Sl} {Pq : List D → DS → Prop} => @pr_3g l s0 s1 s2 s3 s4 s5 s6 s7 Pq
  generalize iD kn = X at *
  show atD X 0 _
  refine atD_nat (j := 0) h0 ?_
  show atD X 0 _
  refine atD_nat (j := 0) h0 ?_
  unfold FARi at hb
  refine ⟨⟨by unfold bnd62; omega, by unfold bnd62; omega⟩, ?_⟩
  have e : rngD (k0 - (m : Int)) (k0 - (k0 - (m : Int))).toNat = iD ((List.range m).map fun i : Nat => (k0 - (m : Int)) + (i : Int)) := by
    rw [rngD_iD, show (k0 - (k0 - (m : Int))).toNat = m by omega]
  rw [e]
  refine hg (by simp; omega) ?_
  exact k
end K60
end
section
set_option Elab.async false
set_option linter.all false
set_option maxRecDepth 100000
set_option maxHeartbeats 4000000
namespace K60
open PySem L2 PV
local macro_rules | `(tactic| walk_at "w") => `(tactic| (conv => whnf))
theorem pr_4a {T : DSt} {E : DEn} {kn : List Int} {i : Nat} {s0 s1 s3 s4 s6 s7 : Sl} (hi : i < kn.length)
    (k : T E [s0, s1, .fz (.list (iD kn)), s3, s4, .fz (.int (i : Int)), .fz (.int (lastL kn i)), s7]) :
    (sSeq (sSet 6 (eIf (tB (eOp oLt (eOp oAdd (eVar 5) (eC (.int 1))) (eBi cLen (aCons (eVar 2) aNil)))) (eOp oSub (eIx (eVar 2) (eOp oAdd (eVar 5) (eC (.int 1)))) (eC (.int 1))) (eC (.int 1000000000000)))) T) E [s0, s1, .fz (.list (iD kn)), s3, s4, .fz (.int (i : Int)), s6, s7] := by
  have hl := iD_len kn
  have hg := fun j (h : j < kn.length) => iD_get (w := kn) h
  generalize iD kn = X at *
  walk_at "w"
  refine br_i (fun hb => ?_) (fun hb => ?_)
  · have hb : (i : Int) + 1 < (X.length : Int) := of_decide_eq_true hb
    have hi2 : i + 1 < kn.length := by omega
    have e : lastL kn i = kn.getD (i + 1) 0 - 1 := by unfold lastL; rw [if_pos hi2]
    rw [e] at k
    show atD X ((i : Int) + 1) _
    rw [show (i : Int) + 1 = ((i + 1 : Nat) : Int) by omega]
    refine atD_nat (hg _ hi2) ?_
    exact k
  · have hb : ¬ (i : Int) + 1 < (X.length : Int) := of_decide_eq_false hb
    have e : lastL kn i = FARi := by unfold lastL; rw [if_neg (by omega)]
    rw [e] at k
    exact k
theorem pr_4b {T : DSt} {E : DEn} {xs : List Int} {x : Int} {s0 s1 s2 s5 s6 s7 : Sl} (hl : xs.length ≤ 100000) (k : T E [s0, s1, s2, .ow (.list (iD (xs ++ [x]))), .fz (.int x), s5, s6, s7]) :
    (sSeq (sEx (eMut 3 mApp (aCons (eVar 4) aNil))) T) E [s0, s1, s2, .ow (.list (iD xs)), .fz (.int x), s5, s6, s7] := by
  have hl2 := iD_len xs
  rw [iD_app] at k
  generalize iD xs = X at *
  walk_at "w"
  refine ⟨by omega, ?_⟩
  exact k
theorem pr_4t {E : DEn} {xs : List Int} {x y z : Int} {s0 s1 s2 s5 : Sl} (hl : xs.length ≤ 100000) (k : E.nx [s0, s1, s2, .ow (.list (iD (xs ++ ([x + y].filter fun v => decide (v ≤ z))))), .fz (.int x), s5, .fz (.int z), .fz (.int y)]) :
    (sIf (tB (eOp oLe (eOp oAdd (eVar 4) (eVar 7)) (eVar 6))) (sEx (eMut 3 mApp (aCons (eOp oAdd (eVar 4) (eVar 7)) aNil))) sNil) E [s0, s1, s2, .ow (.list (iD xs)), .fz (.int x), s5, .fz (.int z), .fz (.int y)] := by
  have hl2 := iD_len xs
  rw [iD_app] at k
  generalize iD xs = X at *
  walk_at "w"
  refine br_i (fun hb => ?_) (fun hb => ?_)
  · have e : ([x + y].filter fun v => decide (v ≤ z)) = [x + y] := List.filter_cons_of_pos (p := fun v => decide (v ≤ z)) hb
    rw [e] at k
    walk_at "w"
    refine ⟨by omega, ?_⟩
    exact k
  · have e : ([x + y].filter fun v => decide (v ≤ z)) = [] := List.filter_cons_of_neg (p := fun v => decide (v ≤ z)) (by rw [hb]; exact Bool.false_ne_true)
    rw [e, show iD ([] : List Int) = [] from rfl, List.append_nil] at k
    exact k
theorem set7 {C : DS → Prop} {x : D} {s0 s1 s2 s3 s4 s5 s6 s7 : Sl} (h : C [s0, s1, s2, s3, s4, s5, s6, .fz x]) : gN 7 x [s0, s1, s2, s3, s4, s5, s6, s7] C := h
theorem pr_4c {E : DEn} {xs : List Int} {x z : Int} {m : Nat} {s0 s2 s5 s7 : Sl} (hl : xs.length ≤ 50000) (hm : m ≤ 100) (k : ∀ s7, E.nx [s0, .fz (.int (m : Int)), s2, .ow (.list (iD (xs ++ stepsL x z m))), .fz (.int x), s5, .fz (.int z), s7]) :
    (sFor (iRange2 (aCons (eC (.int 1)) (aCons (eOp oAdd (eVar 1) (eC (.int 1))) aNil))) (gN 7) (sIf (tB (eOp oLe (eOp oAdd (eVar 4) (eVar 7)) (eVar 6))) (sEx (eMut 3 mApp (aCons (eOp oAdd (eVar 4) (eVar 7)) aNil))) sNil)) E [s0, .fz (.int (m : Int)), s2, .ow (.list (iD xs)), .fz (.int x), s5, .fz (.int z), s7] := by
  have ht := @pr_4t
  generalize (sIf (tB (eOp oLe (eOp oAdd (eVar 4) (eVar 7)) (eVar 6))) (sEx (eMut 3 mApp (aCons (eOp oAdd (eVar 4) (eVar 7)) aNil))) sNil) = B at ht ⊢
  refine ⟨⟨by unfold bnd62; omega, by unfold bnd62; omega⟩, ?_⟩
  rw [show ((m : Int) + 1 - 1).toNat = m by omega]
  refine forGo_rng (ds := [s0, .fz (.int (m : Int)), s2, .ow (.list (iD xs)), .fz (.int x), s5, .fz (.int z), s7])
    (fun j ds => j ≤ m ∧ ∃ s7, ds = [s0, .fz (.int (m : Int)), s2, .ow (.list (iD (xs ++ stepsL x z j))), .fz (.int x), s5, .fz (.int z), s7]) ⟨Nat.zero_le _, s7, by simp [stepsL]⟩ ?_ ?_
  · rintro j ds N hj ⟨_, s7, rfl⟩ hN
    refine set7 ?_
    have hlen : (xs ++ stepsL x z j).length ≤ 100000 := by
      have : (stepsL x z j).length ≤ j := by unfold stepsL; exact Nat.le_trans (List.length_filter_le _ _) (by simp)
      rw [List.length_append]; omega
    refine ht (xs := xs ++ stepsL x z j) hlen ?_
    refine hN _ ⟨by omega, .fz (.int (1 + (j : Int))), ?_⟩
    have e : stepsL x z (j + 1) = stepsL x z j ++ ([x + (1 + (j : Int))].filter fun v => decide (v ≤ z)) := by
      unfold stepsL
      rw [List.range_succ, List.map_append, List.filter_append]
      rfl
    rw [e, ← List.append_assoc]
  · rintro ds ⟨_, s7, rfl⟩
    exact k s7
end K60
end
section
set_option Elab.async false
set_option linter.all false
set_option maxRecDepth 100000
set_option maxHeartbeats 4000000
namespace K60
open PySem L2 PV
local macro_rules | `(tactic| walk_at "w") => `(tactic| (conv => whnf))
theorem flat_len {f : Nat → List Int} {c : Nat} (h : ∀ i, (f i).length ≤ c) : ∀ j, ((List.range j).flatMap f).length ≤ j * c
  | 0 => by simp
  | j + 1 => by
    rw [List.range_succ, List.flatMap_append, List.length_append, Nat.add_mul]
    have := flat_len h j
    have h2 := h j
    simp only [List.flatMap_cons, List.flatMap_nil, List.append_nil]
    omega
theorem flat_succ {f : Nat → List Int} (j : Nat) : (List.range (j + 1)).flatMap f = (List.range j).flatMap f ++ f j := by
  rw [List.range_succ, List.flatMap_append]
  simp
theorem steps_len (k l : Int) (m : Nat) : (stepsL k l m).length ≤ m := by unfold stepsL; exact Nat.le_trans (List.length_filter_le _ _) (by simp)
theorem lows_len (m : Nat) (k : Int) : (lowsL m k).length ≤ m := by unfold lowsL; exact Nat.le_trans (List.length_filter_le _ _) (by simp)
theorem block_len (kn : List Int) (m i : Nat) : (blockL kn m i).length ≤ m + 1 := by
  unfold blockL
  have := steps_len (kn.getD i 0) (lastL kn i) m
  rw [List.length_cons]; omega
theorem set54 {C : DS → Prop} {x y : D} {s0 s1 s2 s3 s4 s5 s6 s7 : Sl} (h : C [s0, s1, s2, s3, .fz y, .fz x, s6, s7]) : (gT 2 (gCs (gN 5) (gCs (gN 4) gNl))) (.tuple [x, y]) [s0, s1, s2, s3, s4, s5, s6, s7] C := h
theorem pr_4 {T : DSt} {E : DEn} {kn lo : List Int} {m : Nat} {s0 s4 s5 s6 s7 : Sl} (hk : kn.length ≤ 100) (hm : m ≤ 100) (hlo : lo.length ≤ 100)
    (k : ∀ z2 s4 s5 s6 s7, T E [s0, .fz (.int (m : Int)), z2, .ow (.list (iD (lo ++ (List.range kn.length).flatMap (blockL kn m)))), s4, s5, s6, s7]) :
    (sSeq (sFor (iEnu (aCons (eVar 2) aNil)) (gT 2 (gCs (gN 5) (gCs (gN 4) gNl))) (sSeq (sSet 6 (eIf (tB (eOp oLt (eOp oAdd (eVar 5) (eC (.int 1))) (eBi cLen (aCons (eVar 2) aNil)))) (eOp oSub (eIx (eVar 2) (eOp oAdd (eVar 5) (eC (.int 1)))) (eC (.int 1))) (eC (.int 1000000000000))))
    (sSeq (sEx (eMut 3 mApp (aCons (eVar 4) aNil)))
    (sFor (iRange2 (aCons (eC (.int 1)) (aCons (eOp oAdd (eVar 1) (eC (.int 1))) aNil))) (gN 7) (sIf (tB (eOp oLe (eOp oAdd (eVar 4) (eVar 7)) (eVar 6))) (sEx (eMut 3 mApp (aCons (eOp oAdd (eVar 4) (eVar 7)) aNil))) sNil))))) T) E [s0, .fz (.int (m : Int)), .ow (.list (iD kn)), .ow (.list (iD lo)), s4, s5, s6, s7] := by
  have h1 := @pr_4a
  have h2 := @pr_4b
  have h3 := @pr_4c
  generalize (sSet 6 (eIf (tB (eOp oLt (eOp oAdd (eVar 5) (eC (.int 1))) (eBi cLen (aCons (eVar 2) aNil)))) (eOp oSub (eIx (eVar 2) (eOp oAdd (eVar 5) (eC (.int 1)))) (eC (.int 1))) (eC (.int 1000000000000)))) = B1 at h1 ⊢
  generalize (sEx (eMut 3 mApp (aCons (eVar 4) aNil))) = B2 at h2 ⊢
  generalize (sFor (iRange2 (aCons (eC (.int 1)) (aCons (eOp oAdd (eVar 1) (eC (.int 1))) aNil))) (gN 7) (sIf (tB (eOp oLe (eOp oAdd (eVar 4) (eVar 7)) (eVar 6))) (sEx (eMut 3 mApp (aCons (eOp oAdd (eVar 4) (eVar 7)) aNil))) sNil)) = B3 at h3 ⊢
  have hl := iD_len kn
  have go : forGo (guard none (enumD 0 (iD kn))) (gT 2 (gCs (gN 5) (gCs (gN 4) gNl))) (sSeq B1 (sSeq B2 B3)) (enumD 0 (iD kn)) { E with nx := T E } [s0, .fz (.int (m : Int)), .fz (.list (iD kn)), .ow (.list (iD lo)), s4, s5, s6, s7] := by
    refine forGo_ix (ds := [s0, .fz (.int (m : Int)), .fz (.list (iD kn)), .ow (.list (iD lo)), s4, s5, s6, s7]) (all := enumD 0 (iD kn))
      (fun j ds => ∃ s4 s5 s6 s7, ds = [s0, .fz (.int (m : Int)), .fz (.list (iD kn)), .ow (.list (iD (lo ++ (List.range j).flatMap (blockL kn m)))), s4, s5, s6, s7]) (fun {k ds P} _ p => p) ?_ ?_ (Nat.zero_le _) rfl ⟨s4, s5, s6, s7, by simp⟩
    · rintro j x ds N hx ⟨s4, s5, s6, s7, rfl⟩ hN
      obtain ⟨y, e, rfl⟩ := enumD_get hx
      have hj : j < kn.length := by rw [← hl]; exact (List.getElem?_eq_some_iff.mp e).1
      rw [iD_get hj] at e
      cases e
      rw [Nat.zero_add]
      have fl := flat_len (f := blockL kn m) (c := m + 1) (fun i => block_len kn m i) j
      have fb : j * (m + 1) ≤ 100 * 101 := Nat.mul_le_mul (by omega) (by omega)
      refine set54 ?_
      refine h1 hj ?_
      refine h2 (xs := lo ++ (List.range j).flatMap (blockL kn m)) (by rw [List.length_append]; omega) ?_
      refine h3 (xs := lo ++ (List.range j).flatMap (blockL kn m) ++ [kn.getD j 0]) (by rw [List.length_append, List.length_append, List.length_singleton]; omega) hm fun s7 => ?_
      have eq : lo ++ (List.range j).flatMap (blockL kn m) ++ [kn.getD j 0] ++ stepsL (kn.getD j 0) (lastL kn j) m = lo ++ (List.range (j + 1)).flatMap (blockL kn m) := by
        rw [flat_succ, show blockL kn m j = [kn.getD j 0] ++ stepsL (kn.getD j 0) (lastL kn j) m from rfl]
        simp only [List.append_assoc]
      rw [eq]
      exact hN _ ⟨_, _, _, s7, rfl⟩
    · rintro ds ⟨s4, s5, s6, s7, rfl⟩
      rw [enumD_len, hl]
      exact k _ _ _ _ _
  exact go
theorem run2 {a b : D} {body : DSt} {Q : Ev → List Sl → Prop} (h : body { nx := fun ds => Q (.val .none) (backA [.fz a, .fz b] ds), rt := fun ev ds => retOk ev (Q ev (backA [.fz a, .fz b] ds)) } [.fz a, .fz b, .no, .no, .no, .no, .no, .no]) : runF [true, true] 6 body [.fz a, .fz b] Q := h
def InF (g : List Int) : Prop := ∀ x ∈ g, -FARi ≤ x ∧ x ≤ FARi
theorem ssI_nil {g : List Int} : ssI g = [] ↔ g = [] := by
  constructor
  · intro h
    cases g with
    | nil => rfl
    | cons x g => have := mem_ssI.mpr (List.mem_cons_self (a := x) (l := g)); rw [h] at this; cases this
  · rintro rfl; rfl
theorem insI_len (x : Int) : ∀ l : List Int, (insI x l).length ≤ l.length + 1
  | [] => by simp [insI]
  | y :: r => by
    have := insI_len x r
    unfold insI
    split
    · simp
    · split
      · simp
      · simp only [List.length_cons]; omega
theorem ssI_len : ∀ ns : List Int, (ssI ns).length ≤ ns.length
  | [] => by simp [ssI]
  | n :: ns => by
    have := ssI_len ns
    have h2 := insI_len n (ssI ns)
    show (insI n (ssI ns)).length ≤ _
    rw [List.length_cons]; omega
theorem probe_ok {g : List Int} {m : Nat} (hg : g.length ≤ 100) (hm : m ≤ 100) (hF : InF g) {Q : Ev → List Sl → Prop} (k : Q (.val (.tuple (iD (pvL g m)))) [.fz (.tuple (iD g)), .fz (.int (m : Int))]) :
    m_probe_values [.fz (.tuple (iD g)), .fz (.int (m : Int))] Q := by
  unfold m_probe_values b_probe_values
  refine run2 ?_
  refine pr_1 hg ?_
  by_cases h : ssI g = []
  · have e : pvL g m = (List.range m).map fun i : Nat => (i : Int) := by unfold pvL; rw [if_pos h]
    rw [e] at k
    rw [h]
    refine pr_2a hm ?_
    exact k
  · have hp := List.length_pos_iff.mpr h
    have hl := ssI_len g
    have e : pvL g m = lowsL m ((ssI g).getD 0 0) ++ (List.range (ssI g).length).flatMap (blockL (ssI g) m) := by unfold pvL; rw [if_neg h]
    rw [e] at k
    have h0 := iD_get hp
    have hb : -FARi ≤ (ssI g).getD 0 0 ∧ (ssI g).getD 0 0 ≤ FARi := by
      refine hF _ (mem_ssI.mp ?_)
      rw [show (ssI g).getD 0 0 = (ssI g)[0] by simp [List.getD, hp]]
      exact List.getElem_mem hp
    refine pr_2b (by intro e; exact h (by cases hs : ssI g with | nil => rfl | cons a b => rw [hs] at e; cases e)) ?_
    refine pr_3 hm h0 hb ?_
    refine pr_4 (by omega) hm (Nat.le_trans (lows_len _ _) hm) fun s2 s4 s5 s6 s7 => ?_
    exact k
end K60
end
section
set_option Elab.async false
set_option linter.all false
set_option maxRecDepth 100000
set_option maxHeartbeats 4000000
namespace K60
open PySem L2 PV
local macro_rules | `(tactic| walk_at "w") => `(tactic| (conv => whnf))
def ownF (g : List Int) (m : Nat) : List Int := ((List.range m).map fun i : Nat => leastI g - 1 - (i : Int)) ++ (List.range g.length).flatMap fun j => (List.range (m + 1)).map fun i : Nat => g.getD j 0 + (i : Int)
def inF (x : Int) : Bool := decide (-FARi ≤ x) && decide (x ≤ FARi)
def ownL (g : List Int) (m : Nat) : List Int := if g = [] then (List.range m).map fun i : Nat => (i : Int) else (ssI (ownF g m)).filter inF
theorem ow_0a {T : DSt} {E : DEn} {m : Nat} {s2 s3 s4 s5 : Sl} (hm : m ≤ 100) (k : E.rt (.fresh (.list (iD ((List.range m).map fun i : Nat => (i : Int))))) [.fz (.tuple []), .fz (.int (m : Int)), s2, s3, s4, s5]) :
    (sSeq (sIf (tB (eOp oEq (eBi cLen (aCons (eVar 0) aNil)) (eC (.int 0)))) (sRet [0, 1] (eLRg (rg1 (eVar 1)))) sNil) T) E [.fz (.tuple []), .fz (.int (m : Int)), s2, s3, s4, s5] := by
  walk_at "w"
  refine oEq_i true (eqv_int 0 0) (dInt _ _) ?_
  walk_at "w"
  refine ⟨okRg_n (by omega), ?_⟩
  walk_at "w"
  have e : rngD 0 ((m : Int) - 0).toNat = iD ((List.range m).map fun i : Nat => (i : Int)) := by
    rw [Int.sub_zero, Int.toNat_natCast, rngD_iD]
    congr 1
    exact List.map_congr_left fun i _ => Int.zero_add _
  rw [e]
  exact k
theorem ow_0b {T : DSt} {E : DEn} {kn : List D} {s1 s2 s3 s4 s5 : Sl} (h0 : kn ≠ []) (k : T E [.fz (.tuple kn), s1, s2, s3, s4, s5]) :
    (sSeq (sIf (tB (eOp oEq (eBi cLen (aCons (eVar 0) aNil)) (eC (.int 0)))) (sRet [0, 1] (eLRg (rg1 (eVar 1)))) sNil) T) E [.fz (.tuple kn), s1, s2, s3, s4, s5] := by
  have := List.length_pos_iff.mpr h0
  walk_at "w"
  refine oEq_i false (by rw [eqv_int]; exact decide_eq_false (by omega)) (dInt _ _) ?_
  exact k
theorem ow_1t {g : List Int} {i : Int} {s1 s2 s3 s4 s5 : Sl} {A : D → DS → Prop} {B : DS → Prop} (h0 : g ≠ []) (hA : A (.int (leastI g - 1 - i)) [.fz (.tuple (iD g)), s1, s2, s3, s4, s5]) :
    gN 3 (.int i) (wipD [.fz (.tuple (iD g)), s1, s2, s3, s4, s5] [3]) fun ds1 => tTrue ds1 fun b ds2 => br b (((eFz (eOp oSub (eOp oSub (eBi cMin2 (aCons (eVar 0) aNil)) (eC (.int 1))) (eVar 3)))) ds2 fun d ds3 => A d (rstD [.fz (.tuple (iD g)), s1, s2, s3, s4, s5] [3] ds3)) (B (rstD [.fz (.tuple (iD g)), s1, s2, s3, s4, s5] [3] ds2)) := by
  show intsOf (g.map PyData.int) _
  refine intsOf_map.mpr ⟨h0, ?_⟩
  exact hA
theorem ow_1g {g l : List Int} {s1 s2 s3 s4 s5 : Sl} {Pq : List D → DS → Prop} (h0 : g ≠ []) (hlen : l.length ≤ 1000) (k : Pq (iD (l.map fun x => leastI g - 1 - x)) [.fz (.tuple (iD g)), s1, s2, s3, s4, s5]) :
    lcGo (guard none (iD l)) [3] (gN 3) tTrue ((eFz (eOp oSub (eOp oSub (eBi cMin2 (aCons (eVar 0) aNil)) (eC (.int 1))) (eVar 3)))) (iD l) [] [.fz (.tuple (iD g)), s1, s2, s3, s4, s5] Pq := by
  refine lcGo_fx (all := iD l) (fun d => match d with | .int i => .int (leastI g - 1 - i) | d => d) (fun P p => p) (fun d hd A B hA => ?_) (fun _ h => h) (by rw [iD_len]; simp only [List.length_nil]; omega) ?_
  · obtain ⟨x, _, rfl⟩ := mem_iD hd
    exact ow_1t h0 hA
  · rw [List.nil_append]
    unfold iD at k ⊢
    rw [List.map_map] at k ⊢
    exact k
theorem ow_1 {T : DSt} {E : DEn} {m : Nat} {g : List Int} {s2 s3 s4 s5 : Sl} (hm : m ≤ 100) (h0 : g ≠ [])
    (k : T E [.fz (.tuple (iD g)), .fz (.int (m : Int)), .ow (.list (iD ((List.range m).map fun i : Nat => leastI g - 1 - (i : Int)))), s3, s4, s5]) :
    (sSeq (sSet 2 (eLc (iRange1 (aCons (eVar 1) aNil)) [3] (gN 3) tTrue (eFz (eOp oSub (eOp oSub (eBi cMin2 (aCons (eVar 0) aNil)) (eC (.int 1))) (eVar 3))))) T) E [.fz (.tuple (iD g)), .fz (.int (m : Int)), s2, s3, s4, s5] := by
  have hg := fun {l : List Int} {s1 s2 s3 s4 s5 : Sl} {Pq : List D → DS → Prop} => @ow_1g g l s1 s2 s3 s4 s5 Pq h0
  generalize (eFz (eOp oSub (eOp oSub (eBi cMin2 (aCons (eVar 0) aNil)) (eC (.int 1))) (eVar 3))) = B at hg ⊢
  refine ⟨by unfold bnd62; omega, ?_⟩
  rw [Int.toNat_natCast, rngD_iD]
  refine hg (by simp; omega) ?_
  rw [List.map_map, show ((fun x => leastI g - 1 - x) ∘ fun i : Nat => 0 + (i : Int)) = fun i : Nat => leastI g - 1 - (i : Int) from funext fun i => by show leastI g - 1 - (0 + (i : Int)) = _; rw [Int.zero_add]]
  exact k
theorem ow_2t {n i : Int} {s0 s1 s2 s3 s5 : Sl} {A : D → DS → Prop} {B : DS → Prop} (hA : A (.int (n + i)) [s0, s1, s2, s3, .fz (.int n), s5]) :
    gN 3 (.int i) (wipD [s0, s1, s2, s3, .fz (.int n), s5] [3]) fun ds1 => tTrue ds1 fun b ds2 => br b (((eFz (eOp oAdd (eVar 4) (eVar 3)))) ds2 fun d ds3 => A d (rstD [s0, s1, s2, s3, .fz (.int n), s5] [3] ds3)) (B (rstD [s0, s1, s2, s3, .fz (.int n), s5] [3] ds2)) := hA
theorem ow_2g {l : List Int} {n : Int} {s0 s1 s2 s3 s5 : Sl} {Pq : List D → DS → Prop} (hlen : l.length ≤ 1000) (k : Pq (iD (l.map fun x => n + x)) [s0, s1, s2, s3, .fz (.int n), s5]) :
    lcGo (guard none (iD l)) [3] (gN 3) tTrue ((eFz (eOp oAdd (eVar 4) (eVar 3)))) (iD l) [] [s0, s1, s2, s3, .fz (.int n), s5] Pq := by
  refine lcGo_fx (all := iD l) (fun d => match d with | .int i => .int (n + i) | d => d) (fun P p => p) (fun d hd A B hA => ?_) (fun _ h => h) (by rw [iD_len]; simp only [List.length_nil]; omega) ?_
  · obtain ⟨x, _, rfl⟩ := mem_iD hd
    exact ow_2t hA
  · rw [List.nil_append]
    unfold iD at k ⊢
    rw [List.map_map] at k ⊢
    exact k
theorem ow_2b {E : DEn} {m : Nat} {n : Int} {xs : List Int} {s0 s3 s5 : Sl} (hm : m ≤ 100) (hl : xs.length ≤ 100000)
    (k : E.nx [s0, .fz (.int (m : Int)), .ow (.list (iD (xs ++ (List.range (m + 1)).map fun i : Nat => n + (i : Int)))), s3, .fz (.int n), s5]) :
    (sSet 2 (eOp oAdd (eVar 2) (eLc (iRange1 (aCons (eOp oAdd (eVar 1) (eC (.int 1))) aNil)) [3] (gN 3) tTrue (eFz (eOp oAdd (eVar 4) (eVar 3)))))) E [s0, .fz (.int (m : Int)), .ow (.list (iD xs)), s3, .fz (.int n), s5] := by
  have hg := fun {l : List Int} {s0 s1 s2 s3 s5 : Sl} {Pq : List D → DS → Prop} => @ow_2g l n s0 s1 s2 s3 s5 Pq
  generalize (eFz (eOp oAdd (eVar 4) (eVar 3))) = B at hg ⊢
  have hl2 := iD_len xs
  have hl3 := iD_len ((List.range (m + 1)).map fun i : Nat => n + (i : Int))
  rw [List.length_map, List.length_range] at hl3
  rw [iD_app] at k
  generalize iD xs = X at *
  walk_at "w"
  refine ⟨by unfold bnd62; omega, ?_⟩
  rw [show ((m : Int) + 1).toNat = m + 1 by omega, rngD_iD]
  refine hg (by simp; omega) ?_
  rw [List.map_map, show ((fun x => n + x) ∘ fun i : Nat => 0 + (i : Int)) = fun i : Nat => n + (i : Int) from funext fun i => by show n + (0 + (i : Int)) = _; rw [Int.zero_add]]
  generalize iD ((List.range (m + 1)).map fun i : Nat => n + (i : Int)) = Y at *
  walk_at "w"
  refine ⟨by omega, ?_⟩
  exact k
end K60
end
section
set_option Elab.async false
set_option linter.all false
set_option maxRecDepth 100000
set_option maxHeartbeats 4000000
namespace K60
open PySem L2 PV
local macro_rules | `(tactic| walk_at "w") => `(tactic| (conv => whnf))
theorem set4 {C : DS → Prop} {x : D} {s0 s1 s2 s3 s4 s5 : Sl} (h : C [s0, s1, s2, s3, .fz x, s5]) : gN 4 x [s0, s1, s2, s3, s4, s5] C := h
theorem ow_2 {T : DSt} {E : DEn} {m : Nat} {g xs : List Int} {s3 s4 s5 : Sl} (hm : m ≤ 100) (hg : g.length ≤ 100) (hl : xs.length ≤ 100)
    (k : ∀ s3 s4, T E [.fz (.tuple (iD g)), .fz (.int (m : Int)), .ow (.list (iD (xs ++ (List.range g.length).flatMap fun j => (List.range (m + 1)).map fun i : Nat => g.getD j 0 + (i : Int)))), s3, s4, s5]) :
    (sSeq (sFor (iSlot 0) (gN 4) (sSet 2 (eOp oAdd (eVar 2) (eLc (iRange1 (aCons (eOp oAdd (eVar 1) (eC (.int 1))) aNil)) [3] (gN 3) tTrue (eFz (eOp oAdd (eVar 4) (eVar 3))))))) T) E [.fz (.tuple (iD g)), .fz (.int (m : Int)), .ow (.list (iD xs)), s3, s4, s5] := by
  have h1 := @ow_2b
  generalize (sSet 2 (eOp oAdd (eVar 2) (eLc (iRange1 (aCons (eOp oAdd (eVar 1) (eC (.int 1))) aNil)) [3] (gN 3) tTrue (eFz (eOp oAdd (eVar 4) (eVar 3)))))) = B1 at h1 ⊢
  have hl2 := iD_len g
  have go : forGo (guard none (iD g)) (gN 4) B1 (iD g) { E with nx := T E } [.fz (.tuple (iD g)), .fz (.int (m : Int)), .ow (.list (iD xs)), s3, s4, s5] := by
    refine forGo_ix (ds := [.fz (.tuple (iD g)), .fz (.int (m : Int)), .ow (.list (iD xs)), s3, s4, s5]) (all := iD g)
      (fun j ds => ∃ s3 s4, ds = [.fz (.tuple (iD g)), .fz (.int (m : Int)), .ow (.list (iD (xs ++ (List.range j).flatMap fun j => (List.range (m + 1)).map fun i : Nat => g.getD j 0 + (i : Int)))), s3, s4, s5]) (fun {k ds P} _ p => p) ?_ ?_ (Nat.zero_le _) rfl ⟨s3, s4, by simp⟩
    · rintro j x ds N hx ⟨s3, s4, rfl⟩ hN
      have hj : j < g.length := by rw [← hl2]; exact (List.getElem?_eq_some_iff.mp hx).1
      rw [iD_get hj] at hx
      cases hx
      have fl := flat_len (f := fun j => (List.range (m + 1)).map fun i : Nat => g.getD j 0 + (i : Int)) (c := m + 1) (fun i => by simp) j
      have fb : j * (m + 1) ≤ 100 * 101 := Nat.mul_le_mul (by omega) (by omega)
      refine set4 ?_
      refine h1 (xs := xs ++ (List.range j).flatMap fun j => (List.range (m + 1)).map fun i : Nat => g.getD j 0 + (i : Int)) hm (by rw [List.length_append]; omega) ?_
      have eq : (xs ++ (List.range j).flatMap fun j => (List.range (m + 1)).map fun i : Nat => g.getD j 0 + (i : Int)) ++ ((List.range (m + 1)).map fun i : Nat => g.getD j 0 + (i : Int)) = xs ++ (List.range (j + 1)).flatMap fun j => (List.range (m + 1)).map fun i : Nat => g.getD j 0 + (i : Int) := by
        rw [flat_succ, List.append_assoc]
      rw [eq]
      exact hN _ ⟨s3, _, rfl⟩
    · rintro ds ⟨s3, s4, rfl⟩
      rw [hl2]
      exact k _ _
  exact go
theorem ow_3t {i : Int} {s0 s1 s2 s3 s4 s5 : Sl} {A : D → DS → Prop} {B : DS → Prop} (hA : inF i = true → A (.int i) [s0, s1, s2, s3, s4, s5]) (hB : inF i = false → B [s0, s1, s2, s3, s4, s5]) :
    gN 5 (.int i) (wipD [s0, s1, s2, s3, s4, s5] [5]) fun ds1 => ((tChI (fun a b => decide (a ≤ b)) (fun a b => decide (a ≤ b)) (eNeg (eOp oPow (eC (.int 10)) (eC (.int 12)))) (eVar 5) (eOp oPow (eC (.int 10)) (eC (.int 12))))) ds1 fun b ds2 => br b ((eFz (eVar 5)) ds2 fun d ds3 => A d (rstD [s0, s1, s2, s3, s4, s5] [5] ds3)) (B (rstD [s0, s1, s2, s3, s4, s5] [5] ds2)) := by
  walk_at "w"
  refine ⟨cpow12, ?_⟩
  walk_at "w"
  refine br_i (fun h1 => ?_) (fun h1 => ?_)
  · walk_at "w"
    refine ⟨cpow12, ?_⟩
    walk_at "w"
    refine br_i (fun h2 => ?_) (fun h2 => ?_)
    · refine hA ?_
      unfold inF
      rw [Bool.and_eq_true]
      exact ⟨h1, h2⟩
    · refine hB ?_
      unfold inF
      rw [show decide (i ≤ FARi) = false from h2, Bool.and_false]
  · refine hB ?_
    unfold inF
    rw [show decide (-FARi ≤ i) = false from h1, Bool.false_and]
theorem ow_3g {l : List Int} {s0 s1 s2 s3 s4 s5 : Sl} {Pq : List D → DS → Prop} (hlen : l.length ≤ 100000) (k : Pq (iD (l.filter inF)) [s0, s1, s2, s3, s4, s5]) :
    lcGo (guard none (iD l)) [5] (gN 5) ((tChI (fun a b => decide (a ≤ b)) (fun a b => decide (a ≤ b)) (eNeg (eOp oPow (eC (.int 10)) (eC (.int 12)))) (eVar 5) (eOp oPow (eC (.int 10)) (eC (.int 12))))) (eFz (eVar 5)) (iD l) [] [s0, s1, s2, s3, s4, s5] Pq := by
  refine lcGo_fy (all := iD l) (fun d => match d with | .int i => inF i | _ => false) (fun d => d) (fun P p => p) (fun d hd A B hA hB => ?_) (fun _ h => h) (by rw [iD_len]; simp only [List.length_nil]; omega) ?_
  · obtain ⟨x, _, rfl⟩ := mem_iD hd
    exact ow_3t hA hB
  · rw [List.nil_append, List.map_id']
    have e : (iD l).filter (fun d => match d with | .int i => inF i | _ => false) = iD (l.filter inF) := by
      unfold iD
      rw [List.filter_map]
      rfl
    rw [e]
    exact k
theorem ow_3 {E : DEn} {xs : List Int} {s0 s1 s3 s4 s5 : Sl} (hl : xs.length ≤ 4000) (k : E.rt (.fresh (.list (iD ((ssI xs).filter inF)))) [s0, s1, .ow (.list (iD xs)), s3, s4, s5]) :
    (sRet [0, 1] (eLc (iFz (eSortSet (aCons (eVar 2) aNil))) [5] (gN 5) (tChI (fun a b => decide (a ≤ b)) (fun a b => decide (a ≤ b)) (eNeg (eOp oPow (eC (.int 10)) (eC (.int 12)))) (eVar 5) (eOp oPow (eC (.int 10)) (eC (.int 12)))) (eFz (eVar 5)))) E [s0, s1, .ow (.list (iD xs)), s3, s4, s5] := by
  have hg := fun {l : List Int} {s0 s1 s2 s3 s4 s5 : Sl} {Pq : List D → DS → Prop} => @ow_3g l s0 s1 s2 s3 s4 s5 Pq
  generalize (tChI (fun a b => decide (a ≤ b)) (fun a b => decide (a ≤ b)) (eNeg (eOp oPow (eC (.int 10)) (eC (.int 12)))) (eVar 5) (eOp oPow (eC (.int 10)) (eC (.int 12)))) = B at hg ⊢
  show intsOf (xs.map PyData.int) _
  refine intsOf_map.mpr ⟨hl, ?_⟩
  refine hg (Nat.le_trans (ssI_len xs) (by omega)) ?_
  exact k
theorem run2w {a b : D} {body : DSt} {Q : Ev → List Sl → Prop} (h : body { nx := fun ds => Q (.val .none) (backA [.fz a, .fz b] ds), rt := fun ev ds => retOk ev (Q ev (backA [.fz a, .fz b] ds)) } [.fz a, .fz b, .no, .no, .no, .no]) : runF [true, true] 4 body [.fz a, .fz b] Q := h
theorem own_ok {g : List Int} {m : Nat} (hg : g.length ≤ 30) (hm : m ≤ 30) {Q : Ev → List Sl → Prop} (k : Q (.fresh (.list (iD (ownL g m)))) [.fz (.tuple (iD g)), .fz (.int (m : Int))]) :
    m_L_own_values [.fz (.tuple (iD g)), .fz (.int (m : Int))] Q := by
  unfold m_L_own_values b_L_own_values
  refine run2w ?_
  by_cases h : g = []
  · subst h
    refine ow_0a (by omega) ?_
    exact k
  · have e : ownL g m = (ssI (ownF g m)).filter inF := by unfold ownL; rw [if_neg h]
    rw [e] at k
    refine ow_0b (by intro e; exact h (by cases hs : g with | nil => rfl | cons a b => rw [hs] at e; cases e)) ?_
    refine ow_1 (by omega) h ?_
    refine ow_2 (by omega) (by omega) (by simp; omega) fun s3 s4 => ?_
    have fl := flat_len (f := fun j => (List.range (m + 1)).map fun i : Nat => g.getD j 0 + (i : Int)) (c := m + 1) (fun i => by simp) g.length
    have fb : g.length * (m + 1) ≤ 30 * 31 := Nat.mul_le_mul hg (by omega)
    refine ow_3 (xs := ownF g m) (by unfold ownF; rw [List.length_append, List.length_map, List.length_range]; omega) ?_
    exact k
end K60
end
section
set_option Elab.async false
set_option linter.all false
set_option maxRecDepth 100000
set_option maxHeartbeats 4000000
namespace K60
open PySem L2 PV
local macro_rules | `(tactic| walk_at "w") => `(tactic| (conv => whnf))
def cntL (g : List Int) (x : Int) : Int := ((g.filter fun y => decide (y < x)).length : Int)
def spotD (g : List Int) (x : Int) : D := .tuple [.int (cntL g x), .bool (decide (x ∈ g))]
theorem sp_t {x i : Int} {s0 s2 : Sl} {A : D → DS → Prop} {B : DS → Prop} (hA : decide (i < x) = true → A (.int i) [s0, .fz (.int x), s2]) (hB : decide (i < x) = false → B [s0, .fz (.int x), s2]) :
    gN 2 (.int i) (wipD [s0, .fz (.int x), s2] [2]) fun ds1 => (tB (eOp oLt (eVar 2) (eVar 1))) ds1 fun b ds2 => br b ((eFz (eVar 2)) ds2 fun d ds3 => A d (rstD [s0, .fz (.int x), s2] [2] ds3)) (B (rstD [s0, .fz (.int x), s2] [2] ds2)) := by
  walk_at "w"
  exact br_i hA hB
theorem sp_g {x : Int} {l : List Int} {s0 s2 : Sl} {Pq : List D → DS → Prop} (hlen : l.length ≤ 100000) (k : Pq (iD (l.filter fun y => decide (y < x))) [s0, .fz (.int x), s2]) :
    lcGo (guard none (iD l)) [2] (gN 2) (tB (eOp oLt (eVar 2) (eVar 1))) (eFz (eVar 2)) (iD l) [] [s0, .fz (.int x), s2] Pq := by
  refine lcGo_fy (all := iD l) (fun d => match d with | .int i => decide (i < x) | _ => false) (fun d => d) (fun P p => p) (fun d hd A B hA hB => ?_) (fun _ h => h) (by rw [iD_len]; simp only [List.length_nil]; omega) ?_
  · obtain ⟨y, _, rfl⟩ := mem_iD hd
    exact sp_t hA hB
  · rw [List.nil_append, List.map_id']
    have e : (iD l).filter (fun d => match d with | .int i => decide (i < x) | _ => false) = iD (l.filter fun y => decide (y < x)) := by
      unfold iD
      rw [List.filter_map]
      rfl
    rw [e]
    exact k
theorem spot_ok {g : List Int} {x : Int} (hg : g.length ≤ 1000) {Q : Ev → List Sl → Prop} (k : Q (.val (spotD g x)) [.fz (.tuple (iD g)), .fz (.int x)]) : m_L_spot [.fz (.tuple (iD g)), .fz (.int x)] Q := by
  have ha : (iD g).any (fun z => PyData.eqv z (.int x)) = decide (x ∈ g) := any_ints g x
  have hd : min (PyData.depthAll (iD g)) (PyData.int x).depth ≤ 60 := by rw [depth_int]; omega
  have hs := fun {s0 s2 : Sl} {Pq : List D → DS → Prop} => @sp_g x g s0 s2 Pq (by omega)
  have hl := iD_len (g.filter fun y => decide (y < x))
  unfold spotD cntL at k
  rw [← hl] at k
  unfold m_L_spot b_L_spot
  generalize iD (g.filter fun y => decide (y < x)) = Y at *
  generalize iD g = X at *
  have run : ∀ {body : DSt}, body { nx := fun ds => Q (.val .none) (backA [.fz (.tuple X), .fz (.int x)] ds), rt := fun ev ds => retOk ev (Q ev (backA [.fz (.tuple X), .fz (.int x)] ds)) } [.fz (.tuple X), .fz (.int x), .no] → runF [true, true] 1 body [.fz (.tuple X), .fz (.int x)] Q := fun h => h
  refine run ?_
  refine hs ?_
  walk_at "w"
  refine oIn_i (decide (x ∈ g)) (.inr rfl) ha hd ?_
  exact k
def sgn (a b : Int) : Int := (if decide (b < a) = true then 1 else 0) - (if decide (a < b) = true then 1 else 0)
theorem sign_ok {a b : Int} {Q : Ev → List Sl → Prop} (k : Q (.val (.int (sgn a b))) [.fz (.int a), .fz (.int b)]) : m_L_sign [.fz (.int a), .fz (.int b)] Q := by
  unfold m_L_sign b_L_sign
  exact k
def likeB (c : List Int) (v : Int) (s : List Int) : Bool := (List.range c.length).all fun i => decide (sgn (c.getD i 0) v = sgn (s.getD i 0) (s.getD c.length 0))
theorem li_1 {mS : DSp} {X : List D} {a v : Int} {i : Nat} {s2 s3 : Sl} (hS : ∀ {Q : Ev → List Sl → Prop}, Q (.val (.int (sgn a v))) [.fz (.int a), .fz (.int v)] → mS [.fz (.int a), .fz (.int v)] Q) (h1 : X[i]? = some (.int a)) {Q : Ev → DS → Prop}
    (k : Q (.val (.int (sgn a v))) [.fz (.tuple X), .fz (.int v), s2, s3, .fz (.int (i : Int))]) :
    (eCall mS 2 [false, true] (aCons (eIx (eVar 0) (eVar 4)) (aCons (eVar 1) aNil))) [.fz (.tuple X), .fz (.int v), s2, s3, .fz (.int (i : Int))] Q := by
  show atD X (i : Int) _
  refine atD_nat h1 ?_
  refine hS ?_
  exact k
theorem li_2 {mS : DSp} {Y : List D} {b e : Int} {i n : Nat} {s0 s1 : Sl} (hS : ∀ {Q : Ev → List Sl → Prop}, Q (.val (.int (sgn b e))) [.fz (.int b), .fz (.int e)] → mS [.fz (.int b), .fz (.int e)] Q) (h2 : Y[i]? = some (.int b)) (h3 : Y[n]? = some (.int e)) {Q : Ev → DS → Prop}
    (k : Q (.val (.int (sgn b e))) [s0, s1, .fz (.list Y), .fz (.int (n : Int)), .fz (.int (i : Int))]) :
    (eCall mS 2 [false, false] (aCons (eIx (eVar 2) (eVar 4)) (aCons (eIx (eVar 2) (eVar 3)) aNil))) [s0, s1, .fz (.list Y), .fz (.int (n : Int)), .fz (.int (i : Int))] Q := by
  show atD Y (i : Int) _
  refine atD_nat h2 ?_
  show atD Y (n : Int) _
  refine atD_nat h3 ?_
  generalize PyData.int e = ed at *
  refine hS ?_
  exact k
theorem li_b {X Y : List D} {a b e v : Int} {i n : Nat} (h1 : X[i]? = some (.int a)) (h2 : Y[i]? = some (.int b)) (h3 : Y[n]? = some (.int e)) {A : D → DS → Prop}
    (hA : A (.bool (decide (sgn a v = sgn b e))) [.fz (.tuple X), .fz (.int v), .fz (.list Y), .fz (.int (n : Int)), .fz (.int (i : Int))]) :
    (eFz (eOp oEq (eCall m_L_sign 2 [false, true] (aCons (eIx (eVar 0) (eVar 4)) (aCons (eVar 1) aNil))) (eCall m_L_sign 2 [false, false] (aCons (eIx (eVar 2) (eVar 4)) (aCons (eIx (eVar 2) (eVar 3)) aNil))))) [.fz (.tuple X), .fz (.int v), .fz (.list Y), .fz (.int (n : Int)), .fz (.int (i : Int))] A := by
  have f1 := fun {Q : Ev → DS → Prop} => @li_1 m_L_sign X a v i (.fz (.list Y)) (.fz (.int (n : Int))) (fun {Q} => sign_ok) h1 Q
  have f2 := fun {Q : Ev → DS → Prop} => @li_2 m_L_sign Y b e i n (.fz (.tuple X)) (.fz (.int v)) (fun {Q} => sign_ok) h2 h3 Q
  generalize (eCall m_L_sign 2 [false, true] (aCons (eIx (eVar 0) (eVar 4)) (aCons (eVar 1) aNil))) = F1 at f1 ⊢
  generalize (eCall m_L_sign 2 [false, false] (aCons (eIx (eVar 2) (eVar 4)) (aCons (eIx (eVar 2) (eVar 3)) aNil))) = F2 at f2 ⊢
  refine f1 ?_
  refine f2 ?_
  refine oEq_i (decide (sgn a v = sgn b e)) (eqv_int _ _) (dInt _ _) ?_
  exact hA
theorem li_t {c s : List Int} {v : Int} {i : Nat} {s4 : Sl} {A : D → DS → Prop} {B : DS → Prop} (hi : i < c.length) (hc : c.length < s.length)
    (hA : A (.bool (decide (sgn (c.getD i 0) v = sgn (s.getD i 0) (s.getD c.length 0)))) [.fz (.tuple (iD c)), .fz (.int v), .fz (.list (iD s)), .fz (.int (c.length : Int)), s4]) :
    gN 4 (.int (i : Int)) (wipD [.fz (.tuple (iD c)), .fz (.int v), .fz (.list (iD s)), .fz (.int (c.length : Int)), s4] [4]) fun ds1 => tTrue ds1 fun b ds2 => br b (((eFz (eOp oEq (eCall m_L_sign 2 [false, true] (aCons (eIx (eVar 0) (eVar 4)) (aCons (eVar 1) aNil))) (eCall m_L_sign 2 [false, false] (aCons (eIx (eVar 2) (eVar 4)) (aCons (eIx (eVar 2) (eVar 3)) aNil)))))) ds2 fun d ds3 => A d (rstD [.fz (.tuple (iD c)), .fz (.int v), .fz (.list (iD s)), .fz (.int (c.length : Int)), s4] [4] ds3)) (B (rstD [.fz (.tuple (iD c)), .fz (.int v), .fz (.list (iD s)), .fz (.int (c.length : Int)), s4] [4] ds2)) := by
  have h1 := iD_get hi
  have h2 := iD_get (w := s) (i := i) (by omega)
  have h3 := iD_get hc
  have hb := fun {A : D → DS → Prop} => @li_b (iD c) (iD s) (c.getD i 0) (s.getD i 0) (s.getD c.length 0) v i c.length h1 h2 h3 A
  generalize (eFz (eOp oEq (eCall m_L_sign 2 [false, true] (aCons (eIx (eVar 0) (eVar 4)) (aCons (eVar 1) aNil))) (eCall m_L_sign 2 [false, false] (aCons (eIx (eVar 2) (eVar 4)) (aCons (eIx (eVar 2) (eVar 3)) aNil))))) = F at hb ⊢
  refine gN_i rfl ?_
  refine hb ?_
  exact hA
theorem like_ok {c s : List Int} {v : Int} (hc : c.length < s.length) (hs : s.length ≤ 100) {Q : Ev → List Sl → Prop} (k : Q (.val (.bool (likeB c v s))) [.fz (.tuple (iD c)), .fz (.int v), .fz (.list (iD s))]) :
    m_L_is_like [.fz (.tuple (iD c)), .fz (.int v), .fz (.list (iD s))] Q := by
  unfold m_L_is_like b_L_is_like
  have ht := fun {i : Nat} {s4 : Sl} {A : D → DS → Prop} {B : DS → Prop} => @li_t c s v i s4 A B
  generalize (eFz (eOp oEq (eCall m_L_sign 2 [false, true] (aCons (eIx (eVar 0) (eVar 4)) (aCons (eVar 1) aNil))) (eCall m_L_sign 2 [false, false] (aCons (eIx (eVar 2) (eVar 4)) (aCons (eIx (eVar 2) (eVar 3)) aNil))))) = F at ht ⊢
  have hl := iD_len c
  have run : ∀ {body : DSt}, body { nx := fun ds => Q (.val .none) (backA [.fz (.tuple (iD c)), .fz (.int v), .fz (.list (iD s))] ds), rt := fun ev ds => retOk ev (Q ev (backA [.fz (.tuple (iD c)), .fz (.int v), .fz (.list (iD s))] ds)) } [.fz (.tuple (iD c)), .fz (.int v), .fz (.list (iD s)), .no, .no] → runF [true, true, true] 2 body [.fz (.tuple (iD c)), .fz (.int v), .fz (.list (iD s))] Q := fun h => h
  refine run ?_
  have go : ∀ Pq : List D → DS → Prop, Pq (((List.range c.length).map fun i => decide (sgn (c.getD i 0) v = sgn (s.getD i 0) (s.getD c.length 0))).map PyData.bool) [.fz (.tuple (iD c)), .fz (.int v), .fz (.list (iD s)), .fz (.int (c.length : Int)), .no] →
      lcGo (guard none (natD (List.range c.length))) [4] (gN 4) tTrue F (natD (List.range c.length)) [] [.fz (.tuple (iD c)), .fz (.int v), .fz (.list (iD s)), .fz (.int (c.length : Int)), .no] Pq := by
    intro Pq hP
    refine lcGo_fx (all := natD (List.range c.length)) (fun d => match d with | .int i => .bool (decide (sgn (c.getD i.toNat 0) v = sgn (s.getD i.toNat 0) (s.getD c.length 0))) | d => d) (fun P p => p) (fun d hd A B hA => ?_) (fun _ h => h) (by rw [natD_len, List.length_range]; simp only [List.length_nil]; omega) ?_
    · obtain ⟨i, hi, rfl⟩ := mem_natD hd
      exact ht (List.mem_range.mp hi) hc hA
    · rw [List.nil_append]
      unfold natD
      rw [List.map_map] at hP ⊢
      exact hP
  generalize iD c = X at *
  generalize iD s = Y at *
  walk_at "w"
  rw [hl]
  refine ⟨by unfold bnd62; omega, ?_⟩
  rw [Int.toNat_natCast, rngD_nat]
  refine go _ ?_
  show boolsOf (((List.range c.length).map fun i => decide (sgn (c.getD i 0) v = sgn (s.getD i 0) (s.getD c.length 0))).map PyData.bool) _
  refine boolsOf_map.mpr ?_
  rw [List.all_map]
  exact k
end K60
end
section
set_option Elab.async false
set_option linter.all false
set_option maxRecDepth 100000
set_option maxHeartbeats 4000000
namespace K60
open PySem L2 PV
local macro_rules | `(tactic| walk_at "w") => `(tactic| (conv => whnf))
theorem eqv_bool2 (a b : Bool) : PyData.eqv (.bool a) (.bool b) = decide (a = b) := by cases a <;> cases b <;> decide
def sameB (g : List Int) (x y : Int) : Bool := decide (cntL g x = cntL g y) && decide (decide (x ∈ g) = decide (y ∈ g))
theorem eqv_spot (g : List Int) (x y : Int) : PyData.eqv (spotD g x) (spotD g y) = sameB g x y := by
  unfold spotD sameB
  show (PyData.eqv (.int (cntL g x)) (.int (cntL g y)) && (PyData.eqv (.bool (decide (x ∈ g))) (.bool (decide (y ∈ g))) && true)) = _
  rw [eqv_int, eqv_bool2, Bool.and_true]
theorem spot_dep (g : List Int) (x y : Int) : min (spotD g x).depth (spotD g y).depth ≤ 60 := by
  unfold spotD
  simp [PyData.depth, PyData.depthAll]
theorem range_getD (a : List Int) : ((List.range a.length).map fun i => a.getD i 0) = a := by
  refine List.ext_getElem (by simp) fun i h1 h2 => ?_
  simp [List.getD, h2]
theorem filter_at (q : Int → Bool) (a : List Int) : ((List.range a.length).filter fun i => q (a.getD i 0)).map (fun i => a.getD i 0) = a.filter q := by
  have h : a.filter q = ((List.range a.length).map fun i => a.getD i 0).filter q := by rw [range_getD]
  rw [h, List.filter_map]
  rfl
def spotsD (g a : List Int) : List D := a.map (spotD g)
def fitL (g a : List Int) (x : Int) : List Int := a.filter fun y => sameB g y x
theorem ho_0 {T : DSt} {E : DEn} {g s : List Int} {j : Nat} {s1 s2 s4 s6 s7 s8 s9 s10 s11 : Sl} (hg : g.length ≤ 1000) (hj : j < s.length) (k : T E [.fz (.tuple (iD g)), s1, s2, .fz (.list (iD s)), s4, .fz (.int (0 + (j : Int))), .fz (spotD g (s.getD j 0)), s7, s8, s9, s10, s11]) :
    (sSeq (sSet 6 (eCall m_L_spot 2 [true, false] (aCons (eVar 0) (aCons (eIx (eVar 3) (eVar 5)) aNil)))) T) E [.fz (.tuple (iD g)), s1, s2, .fz (.list (iD s)), s4, .fz (.int (0 + (j : Int))), s6, s7, s8, s9, s10, s11] := by
  have h1 := iD_get hj
  have hS := fun {Q : Ev → List Sl → Prop} => @spot_ok g (s.getD j 0) hg Q
  generalize m_L_spot = mS at hS ⊢
  rw [Int.zero_add] at *
  generalize iD s = X at *
  generalize PyData.tuple (iD g) = Y at *
  show atD X (j : Int) _
  refine atD_nat h1 ?_
  refine hS ?_
  exact k
theorem ho_1t {g a : List Int} {x : Int} {i : Nat} {s0 s3 s4 s5 s7 s8 s9 s10 s11 : Sl} {A : D → DS → Prop} {B : DS → Prop} (hi : i < a.length)
    (hA : sameB g (a.getD i 0) x = true → A (.int (a.getD i 0)) [s0, .fz (.tuple (iD a)), .ow (.list (spotsD g a)), s3, s4, s5, .fz (spotD g x), s7, s8, s9, s10, s11]) (hB : sameB g (a.getD i 0) x = false → B [s0, .fz (.tuple (iD a)), .ow (.list (spotsD g a)), s3, s4, s5, .fz (spotD g x), s7, s8, s9, s10, s11]) :
    gN 8 (.int (i : Int)) (wipD [s0, .fz (.tuple (iD a)), .ow (.list (spotsD g a)), s3, s4, s5, .fz (spotD g x), s7, s8, s9, s10, s11] [8]) fun ds1 => ((tB (eOp oEq (eIx (eVar 2) (eVar 8)) (eVar 6)))) ds1 fun b ds2 => br b ((eFz (eIx (eVar 1) (eVar 8))) ds2 fun d ds3 => A d (rstD [s0, .fz (.tuple (iD a)), .ow (.list (spotsD g a)), s3, s4, s5, .fz (spotD g x), s7, s8, s9, s10, s11] [8] ds3)) (B (rstD [s0, .fz (.tuple (iD a)), .ow (.list (spotsD g a)), s3, s4, s5, .fz (spotD g x), s7, s8, s9, s10, s11] [8] ds2)) := by
  have h1 := iD_get hi
  have h2 : (spotsD g a)[i]? = some (spotD g (a.getD i 0)) := by
    unfold spotsD
    rw [List.getElem?_map, List.getElem?_eq_getElem hi]
    simp [List.getD, hi]
  have he := eqv_spot g (a.getD i 0) x
  have hd := spot_dep g (a.getD i 0) x
  generalize spotsD g a = Y at *
  generalize iD a = X at *
  generalize spotD g x = S at *
  generalize spotD g (a.getD i 0) = S2 at *
  generalize sameB g (a.getD i 0) x = bb at *
  generalize a.getD i 0 = v at *
  show atD Y (i : Int) _
  refine atD_nat h2 ?_
  refine oEq_i bb he hd ?_
  refine br_i (fun hb => ?_) (fun hb => ?_)
  · show atD X (i : Int) _
    refine atD_nat h1 ?_
    exact hA hb
  · exact hB hb
theorem ho_1 {T : DSt} {E : DEn} {g a : List Int} {x : Int} {s0 s3 s4 s5 s7 s8 s9 s10 s11 : Sl} (ha : a.length ≤ 100000) (k : T E [s0, .fz (.tuple (iD a)), .ow (.list (spotsD g a)), s3, s4, s5, .fz (spotD g x), .ow (.list (iD (fitL g a x))), s8, s9, s10, s11]) :
    (sSeq (sSet 7 (eLc (iRange1 (aCons (eBi cLen (aCons (eVar 1) aNil)) aNil)) [8] (gN 8) (tB (eOp oEq (eIx (eVar 2) (eVar 8)) (eVar 6))) (eFz (eIx (eVar 1) (eVar 8))))) T) E [s0, .fz (.tuple (iD a)), .ow (.list (spotsD g a)), s3, s4, s5, .fz (spotD g x), s7, s8, s9, s10, s11] := by
  have ht := fun {i : Nat} {A : D → DS → Prop} {B : DS → Prop} => @ho_1t g a x i s0 s3 s4 s5 s7 s8 s9 s10 s11 A B
  generalize (tB (eOp oEq (eIx (eVar 2) (eVar 8)) (eVar 6))) = TT at ht ⊢
  have hl := iD_len a
  have go : ∀ Pq : List D → DS → Prop, Pq (iD (fitL g a x)) [s0, .fz (.tuple (iD a)), .ow (.list (spotsD g a)), s3, s4, s5, .fz (spotD g x), s7, s8, s9, s10, s11] →
      lcGo (guard none (natD (List.range a.length))) [8] (gN 8) TT (eFz (eIx (eVar 1) (eVar 8))) (natD (List.range a.length)) [] [s0, .fz (.tuple (iD a)), .ow (.list (spotsD g a)), s3, s4, s5, .fz (spotD g x), s7, s8, s9, s10, s11] Pq := by
    intro Pq hP
    refine lcGo_fy (all := natD (List.range a.length)) (fun d => match d with | .int i => sameB g (a.getD i.toNat 0) x | _ => false) (fun d => match d with | .int i => .int (a.getD i.toNat 0) | d => d) (fun P p => p) (fun d hd A B hA hB => ?_) (fun _ h => h) (by rw [natD_len, List.length_range]; simp only [List.length_nil]; omega) ?_
    · obtain ⟨i, hi, rfl⟩ := mem_natD hd
      exact ht (List.mem_range.mp hi) hA hB
    · rw [List.nil_append]
      have e : ((natD (List.range a.length)).filter (fun d => match d with | .int i => sameB g (a.getD i.toNat 0) x | _ => false)).map (fun d => match d with | .int i => .int (a.getD i.toNat 0) | d => d) = iD (fitL g a x) := by
        unfold fitL
        rw [← filter_at]
        unfold natD iD
        rw [List.filter_map, List.map_map, List.map_map]
        rfl
      rw [e]
      exact hP
  generalize spotsD g a = Y at *
  generalize iD a = X at *
  generalize spotD g x = S at *
  refine ⟨by rw [hl]; unfold bnd62; omega, ?_⟩
  rw [hl, Int.toNat_natCast, rngD_nat]
  refine go _ ?_
  exact k
end K60
end
section
set_option Elab.async false
set_option linter.all false
set_option maxRecDepth 100000
set_option maxHeartbeats 4000000
namespace K60
open PySem L2 PV
local macro_rules | `(tactic| walk_at "w") => `(tactic| (conv => whnf))
theorem flat_lenG {α : Type} {f : Nat → List α} {c : Nat} (h : ∀ i, (f i).length ≤ c) : ∀ j, ((List.range j).flatMap f).length ≤ j * c
  | 0 => by simp
  | j + 1 => by
    rw [List.range_succ, List.flatMap_append, List.length_append, Nat.add_mul]
    have := flat_lenG h j
    have h2 := h j
    simp only [List.flatMap_cons, List.flatMap_nil, List.append_nil]
    omega
theorem flat_succG {α : Type} {f : Nat → List α} (j : Nat) : (List.range (j + 1)).flatMap f = (List.range j).flatMap f ++ f j := by
  rw [List.range_succ, List.flatMap_append]
  simp
def tupD (F : List (List Int)) : List D := F.map fun c => .tuple (iD c)
theorem tupD_len (F : List (List Int)) : (tupD F).length = F.length := by simp [tupD]
theorem tupD_app (F G : List (List Int)) : tupD (F ++ G) = tupD F ++ tupD G := by simp [tupD]
theorem tupD_get {F : List (List Int)} {i : Nat} (h : i < F.length) : (tupD F)[i]? = some (.tuple (iD (F.getD i []))) := by
  unfold tupD
  rw [List.getElem?_map, List.getElem?_eq_getElem h]
  simp [List.getD, h]
def extL (s ft c : List Int) : List (List Int) := (ft.filter fun v => likeB c v s).map fun v => c ++ [v]
theorem ext_len (s ft c : List Int) : (extL s ft c).length ≤ ft.length := by unfold extL; rw [List.length_map]; exact List.length_filter_le _ _
theorem ho_3t {c s : List Int} {v : Int} {s0 s1 s2 s4 s5 s6 s7 s8 s9 s11 : Sl} {A : D → DS → Prop} {B : DS → Prop} (hc : c.length < s.length) (hs : s.length ≤ 100)
    (hA : likeB c v s = true → A (.tuple (iD (c ++ [v]))) [s0, s1, s2, .fz (.list (iD s)), s4, s5, s6, s7, s8, s9, .fz (.tuple (iD c)), s11]) (hB : likeB c v s = false → B [s0, s1, s2, .fz (.list (iD s)), s4, s5, s6, s7, s8, s9, .fz (.tuple (iD c)), s11]) :
    gN 11 (.int v) (wipD [s0, s1, s2, .fz (.list (iD s)), s4, s5, s6, s7, s8, s9, .fz (.tuple (iD c)), s11] [11]) fun ds1 => ((tTr (eCall m_L_is_like 3 [true, true, true] (aCons (eVar 10) (aCons (eVar 11) (aCons (eVar 3) aNil)))))) ds1 fun b ds2 => br b ((eFz (eOp oAdd (eVar 10) (eTup (aCons (eVar 11) aNil)))) ds2 fun d ds3 => A d (rstD [s0, s1, s2, .fz (.list (iD s)), s4, s5, s6, s7, s8, s9, .fz (.tuple (iD c)), s11] [11] ds3)) (B (rstD [s0, s1, s2, .fz (.list (iD s)), s4, s5, s6, s7, s8, s9, .fz (.tuple (iD c)), s11] [11] ds2)) := by
  have hL := fun {Q : Ev → List Sl → Prop} => @like_ok c s v hc hs Q
  have hl := iD_len c
  rw [iD_app, show iD [v] = [.int v] from rfl] at hA
  generalize m_L_is_like = mL at hL ⊢
  generalize iD s = Y at *
  generalize iD c = X at *
  generalize likeB c v s = bb at *
  refine gN_i rfl ?_
  refine hL ?_
  refine br_i (fun hb => ?_) (fun hb => ?_)
  · walk_at "w"
    refine ⟨by simp only [List.length_singleton]; omega, ?_⟩
    exact hA hb
  · exact hB hb
theorem ho_3g {c s ft : List Int} {s0 s1 s2 s4 s5 s6 s8 s9 s11 : Sl} {Pq : List D → DS → Prop} (hc : c.length < s.length) (hs : s.length ≤ 100) (hf : ft.length ≤ 1000)
    (k : Pq (tupD (extL s ft c)) [s0, s1, s2, .fz (.list (iD s)), s4, s5, s6, .ow (.list (iD ft)), s8, s9, .fz (.tuple (iD c)), s11]) :
    lcGo (guard (some 7) (iD ft)) [11] (gN 11) ((tTr (eCall m_L_is_like 3 [true, true, true] (aCons (eVar 10) (aCons (eVar 11) (aCons (eVar 3) aNil)))))) (eFz (eOp oAdd (eVar 10) (eTup (aCons (eVar 11) aNil)))) (iD ft) [] [s0, s1, s2, .fz (.list (iD s)), s4, s5, s6, .ow (.list (iD ft)), s8, s9, .fz (.tuple (iD c)), s11] Pq := by
  refine lcGo_fy (all := iD ft) (fun d => match d with | .int v => likeB c v s | _ => false) (fun d => match d with | .int v => .tuple (iD (c ++ [v])) | d => d) (fun P p => ⟨rfl, p⟩) (fun d hd A B hA hB => ?_) (fun _ h => h) (by rw [iD_len]; simp only [List.length_nil]; omega) ?_
  · obtain ⟨x, _, rfl⟩ := mem_iD hd
    exact ho_3t hc hs hA hB
  · rw [List.nil_append]
    have e : ((iD ft).filter (fun d => match d with | .int v => likeB c v s | _ => false)).map (fun d => match d with | .int v => .tuple (iD (c ++ [v])) | d => d) = tupD (extL s ft c) := by
      unfold tupD extL iD
      rw [List.filter_map, List.map_map, List.map_map]
      rfl
    rw [e]
    exact k
theorem ho_3b {E : DEn} {c s ft : List Int} {L : List (List Int)} {s0 s1 s2 s4 s5 s6 s8 s11 : Sl} (hc : c.length < s.length) (hs : s.length ≤ 100) (hf : ft.length ≤ 1000) (hL : L.length ≤ 1000000)
    (k : E.nx [s0, s1, s2, .fz (.list (iD s)), s4, s5, s6, .ow (.list (iD ft)), s8, .ow (.list (tupD (L ++ extL s ft c))), .fz (.tuple (iD c)), s11]) :
    (sSet 9 (eOp oAdd (eVar 9) (eLc (iSlot 7) [11] (gN 11) (tTr (eCall m_L_is_like 3 [true, true, true] (aCons (eVar 10) (aCons (eVar 11) (aCons (eVar 3) aNil))))) (eFz (eOp oAdd (eVar 10) (eTup (aCons (eVar 11) aNil))))))) E [s0, s1, s2, .fz (.list (iD s)), s4, s5, s6, .ow (.list (iD ft)), s8, .ow (.list (tupD L)), .fz (.tuple (iD c)), s11] := by
  have hg := fun {Pq : List D → DS → Prop} => @ho_3g c s ft s0 s1 s2 s4 s5 s6 s8 (.ow (.list (tupD L))) s11 Pq hc hs hf
  have l1 := tupD_len L
  have l2 := tupD_len (extL s ft c)
  have l3 := ext_len s ft c
  rw [tupD_app] at k
  generalize (tTr (eCall m_L_is_like 3 [true, true, true] (aCons (eVar 10) (aCons (eVar 11) (aCons (eVar 3) aNil))))) = TT at hg ⊢
  generalize tupD L = X at *
  generalize tupD (extL s ft c) = Y at *
  generalize iD ft = Z at *
  walk_at "w"
  refine hg ?_
  walk_at "w"
  refine ⟨by omega, ?_⟩
  exact k
theorem setA {C : DS → Prop} {x : D} {s0 s1 s2 s3 s4 s5 s6 s7 s8 s9 s10 s11 : Sl} (h : C [s0, s1, s2, s3, s4, s5, s6, s7, s8, s9, .fz x, s11]) : gN 10 x [s0, s1, s2, s3, s4, s5, s6, s7, s8, s9, s10, s11] C := h
theorem ho_3f {E : DEn} {s ft : List Int} {F : List (List Int)} {ok : DS → Prop → Prop} {q4 : Sl} {s0 s1 s2 s5 s6 s8 s10 s11 : Sl} (hok : ∀ P s9 s10 s11, P → ok [s0, s1, s2, .fz (.list (iD s)), q4, s5, s6, .ow (.list (iD ft)), s8, s9, s10, s11] P) (hF : ∀ c ∈ F, c.length < s.length) (hs : s.length ≤ 100) (hf : ft.length ≤ 100) (hFl : F.length ≤ 8000)
    (k : ∀ s10 s11, E.nx [s0, s1, s2, .fz (.list (iD s)), q4, s5, s6, .ow (.list (iD ft)), s8, .ow (.list (tupD ((List.range F.length).flatMap fun i => extL s ft (F.getD i [])))), s10, s11]) :
    forGo ok (gN 10) (sSet 9 (eOp oAdd (eVar 9) (eLc (iSlot 7) [11] (gN 11) (tTr (eCall m_L_is_like 3 [true, true, true] (aCons (eVar 10) (aCons (eVar 11) (aCons (eVar 3) aNil))))) (eFz (eOp oAdd (eVar 10) (eTup (aCons (eVar 11) aNil))))))) (tupD F) E [s0, s1, s2, .fz (.list (iD s)), q4, s5, s6, .ow (.list (iD ft)), s8, .ow (.list []), s10, s11] := by
  have h1 := @ho_3b
  generalize (sSet 9 (eOp oAdd (eVar 9) (eLc (iSlot 7) [11] (gN 11) (tTr (eCall m_L_is_like 3 [true, true, true] (aCons (eVar 10) (aCons (eVar 11) (aCons (eVar 3) aNil))))) (eFz (eOp oAdd (eVar 10) (eTup (aCons (eVar 11) aNil))))))) = B1 at h1 ⊢
  have hl2 := tupD_len F
  refine forGo_ix (ds := [s0, s1, s2, .fz (.list (iD s)), q4, s5, s6, .ow (.list (iD ft)), s8, .ow (.list []), s10, s11]) (all := tupD F)
    (fun j ds => ∃ s10 s11, ds = [s0, s1, s2, .fz (.list (iD s)), q4, s5, s6, .ow (.list (iD ft)), s8, .ow (.list (tupD ((List.range j).flatMap fun i => extL s ft (F.getD i [])))), s10, s11]) (fun {k ds P} h p => by obtain ⟨s10, s11, rfl⟩ := h; exact hok _ _ _ _ p) ?_ ?_ (Nat.zero_le _) rfl ⟨s10, s11, by simp [tupD]⟩
  · rintro j x ds N hx ⟨s10, s11, rfl⟩ hN
    have hj : j < F.length := by rw [← hl2]; exact (List.getElem?_eq_some_iff.mp hx).1
    rw [tupD_get hj] at hx
    cases hx
    have fl := flat_lenG (f := fun i => extL s ft (F.getD i [])) (c := 100) (fun i => Nat.le_trans (ext_len _ _ _) hf) j
    have hm : F.getD j [] ∈ F := by
      rw [show F.getD j [] = F[j] by simp [List.getD, hj]]
      exact List.getElem_mem hj
    refine setA ?_
    refine h1 (L := (List.range j).flatMap fun i => extL s ft (F.getD i [])) (hF _ hm) hs (by omega) (by omega) ?_
    rw [← flat_succG (f := fun i => extL s ft (F.getD i []))]
    exact hN _ ⟨_, s11, rfl⟩
  · rintro ds ⟨s10, s11, rfl⟩
    rw [hl2]
    exact k _ _
end K60
end
section
set_option Elab.async false
set_option linter.all false
set_option maxRecDepth 100000
set_option maxHeartbeats 4000000
namespace K60
open PySem L2 PV
local macro_rules | `(tactic| walk_at "w") => `(tactic| (conv => whnf))
theorem ho_2 {T : DSt} {E : DEn} {s0 s1 s2 s3 s4 s5 s6 s7 s8 s9 s10 s11 : Sl} (k : T E [s0, s1, s2, s3, s4, s5, s6, s7, s8, .ow (.list []), s10, s11]) : (sSeq (sSet 9 (eLst aNil)) T) E [s0, s1, s2, s3, s4, s5, s6, s7, s8, s9, s10, s11] := k
theorem ho_3 {T : DSt} {E : DEn} {s ft : List Int} {F : List (List Int)} {q4 : Sl} {s0 s1 s2 s5 s6 s8 s10 s11 : Sl} (h4 : q4 = .fz (.list (tupD F)) ∨ q4 = .ow (.list (tupD F))) (hF : ∀ c ∈ F, c.length < s.length) (hs : s.length ≤ 100) (hf : ft.length ≤ 100) (hFl : F.length ≤ 8000)
    (k : ∀ s10 s11, T E [s0, s1, s2, .fz (.list (iD s)), q4, s5, s6, .ow (.list (iD ft)), s8, .ow (.list (tupD ((List.range F.length).flatMap fun i => extL s ft (F.getD i [])))), s10, s11]) :
    (sSeq (sFor (iSlot 4) (gN 10) (sSet 9 (eOp oAdd (eVar 9) (eLc (iSlot 7) [11] (gN 11) (tTr (eCall m_L_is_like 3 [true, true, true] (aCons (eVar 10) (aCons (eVar 11) (aCons (eVar 3) aNil))))) (eFz (eOp oAdd (eVar 10) (eTup (aCons (eVar 11) aNil)))))))) T) E [s0, s1, s2, .fz (.list (iD s)), q4, s5, s6, .ow (.list (iD ft)), s8, .ow (.list []), s10, s11] := by
  have h1 := fun {E : DEn} {ok : DS → Prop → Prop} {q4 : Sl} => @ho_3f E s ft F ok q4 s0 s1 s2 s5 s6 s8 s10 s11
  generalize (sSet 9 (eOp oAdd (eVar 9) (eLc (iSlot 7) [11] (gN 11) (tTr (eCall m_L_is_like 3 [true, true, true] (aCons (eVar 10) (aCons (eVar 11) (aCons (eVar 3) aNil))))) (eFz (eOp oAdd (eVar 10) (eTup (aCons (eVar 11) aNil))))))) = B1 at h1 ⊢
  rcases h4 with rfl | rfl
  · have go : forGo (guard none (tupD F)) (gN 10) B1 (tupD F) { E with nx := T E } [s0, s1, s2, .fz (.list (iD s)), .fz (.list (tupD F)), s5, s6, .ow (.list (iD ft)), s8, .ow (.list []), s10, s11] := h1 (fun P _ _ _ p => p) hF hs hf hFl k
    exact go
  · have go : forGo (guard (some 4) (tupD F)) (gN 10) B1 (tupD F) { E with nx := T E } [s0, s1, s2, .fz (.list (iD s)), .ow (.list (tupD F)), s5, s6, .ow (.list (iD ft)), s8, .ow (.list []), s10, s11] := h1 (fun P _ _ _ p => ⟨rfl, p⟩) hF hs hf hFl k
    exact go
theorem ho_4 {E : DEn} {L : List D} {s0 s1 s2 s3 s4 s5 s6 s7 s8 s10 s11 : Sl} (k : E.nx [s0, s1, s2, s3, .fz (.list L), s5, s6, s7, s8, .fz (.list L), s10, s11]) : (sSet 4 (eVar 9)) E [s0, s1, s2, s3, s4, s5, s6, s7, s8, .ow (.list L), s10, s11] := k
structure Fits (g a s φ : List Int) : Prop where
  len : φ.length = s.length
  mem : ∀ j, j < s.length → φ.getD j 0 ∈ a ∧ sameB g (φ.getD j 0) (s.getD j 0) = true
  ord : ∀ i j, i < j → j < s.length → sgn (φ.getD i 0) (φ.getD j 0) = sgn (s.getD i 0) (s.getD j 0)
structure GoodF (φ : List Int) (F : List (List Int)) (j : Nat) : Prop where
  len : ∀ c ∈ F, c.length = j
  few : F.length ≤ 20 ^ j
  mem : φ.take j ∈ F
theorem take_getD {φ : List Int} {i j : Nat} (h : i < j) (h2 : j ≤ φ.length) : (φ.take j).getD i 0 = φ.getD i 0 := by
  simp [List.getD, List.getElem?_take, h]
theorem good_step {g a s φ : List Int} {F : List (List Int)} {j : Nat} (hφ : Fits g a s φ) (hfit : ∀ x, (fitL g a x).length ≤ 20) (hj : j < s.length) (h : GoodF φ F j) :
    GoodF φ ((List.range F.length).flatMap fun i => extL s (fitL g a (s.getD j 0)) (F.getD i [])) (j + 1) := by
  have hgetmem : ∀ i, i < F.length → F.getD i [] ∈ F := fun i hi => by
    rw [show F.getD i [] = F[i] by simp [List.getD, hi]]
    exact List.getElem_mem hi
  refine ⟨fun c hc => ?_, ?_, ?_⟩
  · obtain ⟨i, hi, hc⟩ := List.mem_flatMap.mp hc
    unfold extL at hc
    obtain ⟨v, _, rfl⟩ := List.mem_map.mp hc
    rw [List.length_append, h.len _ (hgetmem i (List.mem_range.mp hi))]
    rfl
  · have := flat_lenG (f := fun i => extL s (fitL g a (s.getD j 0)) (F.getD i [])) (c := 20) (fun i => Nat.le_trans (ext_len _ _ _) (hfit _)) F.length
    have h2 : F.length * 20 ≤ 20 ^ j * 20 := Nat.mul_le_mul_right _ h.few
    rw [Nat.pow_succ]
    omega
  · obtain ⟨i, hi, e⟩ := List.getElem_of_mem h.mem
    have lj : j < φ.length := by rw [hφ.len]; exact hj
    refine List.mem_flatMap.mpr ⟨i, List.mem_range.mpr hi, ?_⟩
    rw [show F.getD i [] = φ.take j by simp [List.getD, hi, e]]
    have et : φ.take (j + 1) = φ.take j ++ [φ.getD j 0] := by
      rw [List.take_add_one, List.getElem?_eq_getElem lj]
      simp [List.getD, lj]
    rw [et]
    unfold extL
    refine List.mem_map.mpr ⟨φ.getD j 0, List.mem_filter.mpr ⟨?_, ?_⟩, rfl⟩
    · unfold fitL
      exact List.mem_filter.mpr ⟨(hφ.mem j hj).1, (hφ.mem j hj).2⟩
    · unfold likeB
      have lt : (φ.take j).length = j := by rw [List.length_take]; omega
      rw [lt]
      refine List.all_eq_true.mpr fun i hi => ?_
      have hi := List.mem_range.mp hi
      rw [take_getD hi (by omega)]
      exact decide_eq_true (hφ.ord i j hi hj)
theorem ho_a {T : DSt} {E : DEn} {s0 s1 s2 s3 s4 s5 s6 s7 s8 s9 s10 s11 : Sl} (k : T E [s0, s1, s2, s3, .ow (.list (tupD [[]])), s5, s6, s7, s8, s9, s10, s11]) : (sSeq (sSet 4 (eLst (aCons (eTup aNil) aNil))) T) E [s0, s1, s2, s3, s4, s5, s6, s7, s8, s9, s10, s11] := k
theorem set5 {C : DS → Prop} {x : D} {s0 s1 s2 s3 s4 s5 s6 s7 s8 s9 s10 s11 : Sl} (h : C [s0, s1, s2, s3, s4, .fz x, s6, s7, s8, s9, s10, s11]) : gN 5 x [s0, s1, s2, s3, s4, s5, s6, s7, s8, s9, s10, s11] C := h
theorem ho_b {T : DSt} {E : DEn} {g a s φ : List Int} {s5 s6 s7 s8 s9 s10 s11 : Sl} (hφ : Fits g a s φ) (hfit : ∀ x, (fitL g a x).length ≤ 20) (hg : g.length ≤ 1000) (ha : a.length ≤ 100000) (hs : s.length ≤ 3)
    (k : ∀ F z4 s5 s6 s7 s8 s9 s10 s11, (z4 = .fz (.list (tupD F)) ∨ z4 = .ow (.list (tupD F))) → F ≠ [] → F.length ≤ 8000 → T E [.fz (.tuple (iD g)), .fz (.tuple (iD a)), .ow (.list (spotsD g a)), .fz (.list (iD s)), z4, s5, s6, s7, s8, s9, s10, s11]) :
    (sSeq (sFor (iRange1 (aCons (eBi cLen (aCons (eVar 3) aNil)) aNil)) (gN 5) (sSeq (sSet 6 (eCall m_L_spot 2 [true, false] (aCons (eVar 0) (aCons (eIx (eVar 3) (eVar 5)) aNil))))
    (sSeq (sSet 7 (eLc (iRange1 (aCons (eBi cLen (aCons (eVar 1) aNil)) aNil)) [8] (gN 8) (tB (eOp oEq (eIx (eVar 2) (eVar 8)) (eVar 6))) (eFz (eIx (eVar 1) (eVar 8)))))
    (sSeq (sSet 9 (eLst aNil))
    (sSeq (sFor (iSlot 4) (gN 10) (sSet 9 (eOp oAdd (eVar 9) (eLc (iSlot 7) [11] (gN 11) (tTr (eCall m_L_is_like 3 [true, true, true] (aCons (eVar 10) (aCons (eVar 11) (aCons (eVar 3) aNil))))) (eFz (eOp oAdd (eVar 10) (eTup (aCons (eVar 11) aNil))))))))
    (sSet 4 (eVar 9))))))) T) E [.fz (.tuple (iD g)), .fz (.tuple (iD a)), .ow (.list (spotsD g a)), .fz (.list (iD s)), .ow (.list (tupD [[]])), s5, s6, s7, s8, s9, s10, s11] := by
  have h0 := @ho_0
  have h1 := @ho_1
  have h2 := @ho_2
  have h3 := @ho_3
  have h4 := @ho_4
  have pw : ∀ j, j ≤ 3 → 20 ^ j ≤ 8000 := fun j hj => by
    have : j = 0 ∨ j = 1 ∨ j = 2 ∨ j = 3 := by omega
    rcases this with rfl | rfl | rfl | rfl <;> decide
  generalize (sSet 6 (eCall m_L_spot 2 [true, false] (aCons (eVar 0) (aCons (eIx (eVar 3) (eVar 5)) aNil)))) = B0 at h0 ⊢
  generalize (sSet 7 (eLc (iRange1 (aCons (eBi cLen (aCons (eVar 1) aNil)) aNil)) [8] (gN 8) (tB (eOp oEq (eIx (eVar 2) (eVar 8)) (eVar 6))) (eFz (eIx (eVar 1) (eVar 8))))) = B1 at h1 ⊢
  generalize (sSet 9 (eLst aNil)) = B2 at h2 ⊢
  generalize (sFor (iSlot 4) (gN 10) (sSet 9 (eOp oAdd (eVar 9) (eLc (iSlot 7) [11] (gN 11) (tTr (eCall m_L_is_like 3 [true, true, true] (aCons (eVar 10) (aCons (eVar 11) (aCons (eVar 3) aNil))))) (eFz (eOp oAdd (eVar 10) (eTup (aCons (eVar 11) aNil)))))))) = B3 at h3 ⊢
  generalize (sSet 4 (eVar 9)) = B4 at h4 ⊢
  refine ⟨by rw [iD_len]; unfold bnd62; omega, ?_⟩
  rw [iD_len, Int.toNat_natCast]
  refine forGo_rng (ds := [.fz (.tuple (iD g)), .fz (.tuple (iD a)), .ow (.list (spotsD g a)), .fz (.list (iD s)), .ow (.list (tupD [[]])), s5, s6, s7, s8, s9, s10, s11])
    (fun j ds => ∃ F s4 s5 s6 s7 s8 s9 s10 s11, (s4 = .fz (.list (tupD F)) ∨ s4 = .ow (.list (tupD F))) ∧ GoodF φ F j ∧ ds = [.fz (.tuple (iD g)), .fz (.tuple (iD a)), .ow (.list (spotsD g a)), .fz (.list (iD s)), s4, s5, s6, s7, s8, s9, s10, s11])
    ⟨[[]], _, s5, s6, s7, s8, s9, s10, s11, .inr rfl, ⟨by simp, by simp, by simp⟩, rfl⟩ ?_ ?_
  · rintro j ds N hj ⟨F, s4, s5, s6, s7, s8, s9, s10, s11, e4, hF, rfl⟩ hN
    have hf2 := Nat.le_trans hF.few (pw j (by omega))
    refine set5 ?_
    refine h0 hg hj ?_
    refine h1 ha ?_
    refine h2 ?_
    refine h3 e4 (fun c hc => by rw [hF.len c hc]; exact hj) (by omega) (Nat.le_trans (hfit _) (by omega)) hf2 fun s10 s11 => ?_
    refine h4 ?_
    exact hN _ ⟨_, _, _, _, _, _, _, _, _, .inl rfl, good_step hφ hfit hj hF, rfl⟩
  · rintro ds ⟨F, s4, s5, s6, s7, s8, s9, s10, s11, e4, hF, rfl⟩
    exact k F _ _ _ _ _ _ _ _ e4 (List.ne_nil_of_mem hF.mem) (Nat.le_trans hF.few (pw _ hs))
theorem ho_c {E : DEn} {F : List (List Int)} {s4 : Sl} {s0 s1 s2 s3 s5 s6 s7 s8 s9 s10 s11 : Sl} (h4 : s4 = .fz (.list (tupD F)) ∨ s4 = .ow (.list (tupD F))) (hF : F ≠ []) (k : E.rt (.val (.bool true)) [s0, s1, s2, s3, s4, s5, s6, s7, s8, s9, s10, s11]) :
    (sRet [0, 1, 2, 3] (eOp oGt (eBi cLen (aCons (eVar 4) aNil)) (eC (.int 0)))) E [s0, s1, s2, s3, s4, s5, s6, s7, s8, s9, s10, s11] := by
  have h : decide ((0 : Int) < ((tupD F).length : Int)) = true := by
    have := List.length_pos_iff.mpr hF
    rw [tupD_len]
    exact decide_eq_true (by omega)
  generalize tupD F = X at *
  rcases h4 with rfl | rfl
  · rw [← h] at k
    exact k
  · rw [← h] at k
    exact k
theorem has_order_ok {g a s φ : List Int} (hφ : Fits g a s φ) (hfit : ∀ x, (fitL g a x).length ≤ 20) (hg : g.length ≤ 1000) (ha : a.length ≤ 100000) (hs : s.length ≤ 3) {Q : Ev → List Sl → Prop}
    (k : Q (.val (.bool true)) [.fz (.tuple (iD g)), .fz (.tuple (iD a)), .ow (.list (spotsD g a)), .fz (.list (iD s))]) :
    m_L_has_order [.fz (.tuple (iD g)), .fz (.tuple (iD a)), .ow (.list (spotsD g a)), .fz (.list (iD s))] Q := by
  unfold m_L_has_order b_L_has_order
  have run : ∀ {body : DSt}, body { nx := fun ds => Q (.val .none) (backA [.fz (.tuple (iD g)), .fz (.tuple (iD a)), .ow (.list (spotsD g a)), .fz (.list (iD s))] ds), rt := fun ev ds => retOk ev (Q ev (backA [.fz (.tuple (iD g)), .fz (.tuple (iD a)), .ow (.list (spotsD g a)), .fz (.list (iD s))] ds)) } [.fz (.tuple (iD g)), .fz (.tuple (iD a)), .ow (.list (spotsD g a)), .fz (.list (iD s)), .no, .no, .no, .no, .no, .no, .no, .no] → runF [true, true, true, true] 8 body [.fz (.tuple (iD g)), .fz (.tuple (iD a)), .ow (.list (spotsD g a)), .fz (.list (iD s))] Q := fun h => h
  refine run ?_
  refine ho_a ?_
  refine ho_b hφ hfit hg ha hs fun F s4 s5 s6 s7 s8 s9 s10 s11 e4 hF _ => ?_
  refine ho_c e4 hF ?_
  exact k
end K60
end
section
set_option Elab.async false
set_option linter.all false
set_option maxRecDepth 100000
set_option maxHeartbeats 4000000
namespace K60
open PySem L2 PV
local macro_rules | `(tactic| walk_at "w") => `(tactic| (conv => whnf))
def In1 (x : Int) : Prop := -FARi ≤ x ∧ x ≤ FARi
theorem far_ok {l : List D} (hl : Dr l) {Q : Ev → List Sl → Prop} (k : ∀ y l', Dr l' → In1 y → Q (.val (.int y)) [.ow (.list l')]) : m_L_far [.ow (.list l)] Q := by
  unfold m_L_far b_L_far
  have hD := @draw_ok
  generalize m_L_draw = mD at hD ⊢
  walk_at "w"
  refine ⟨cpow6, ?_⟩
  walk_at "w"
  refine hD (by decide) (by decide) hl fun r1 l2 a0 a1 hl2 => ?_
  have a1 : r1 < 1000000 := a1
  walk_at "w"
  refine ⟨cpow6, ?_⟩
  walk_at "w"
  refine ⟨mulR (by decide) (by decide), ?_⟩
  walk_at "w"
  refine ⟨cpow6, ?_⟩
  walk_at "w"
  refine hD (by decide) (by decide) hl2 fun r2 l3 b0 b1 hl3 => ?_
  have b1 : r2 < 1000000 := b1
  walk_at "w"
  refine hD (by decide) (by decide) hl3 fun r3 l4 c0 c1 hl4 => ?_
  walk_at "w"
  refine ⟨mulL (by decide) (by decide), ?_⟩
  walk_at "w"
  refine ⟨mulR (by omega) (by omega), ?_⟩
  refine k _ _ hl4 ?_
  show In1 ((r1 * 1000000 + r2) * (1 - 2 * r3))
  unfold In1 FARi
  have : r3 = 0 ∨ r3 = 1 := by omega
  rcases this with rfl | rfl
  · omega
  · omega
theorem within_ok {x : Int} {Q : Ev → List Sl → Prop} (k : ∀ y, In1 y → Q (.val (.int y)) [.fz (.int x)]) : m_L_within [.fz (.int x)] Q := by
  unfold m_L_within b_L_within
  walk_at "w"
  refine ⟨cpow12, ?_⟩
  walk_at "w"
  refine ⟨cpow12, ?_⟩
  refine k _ ?_
  show In1 (if (if x < 1000000000000 then x else 1000000000000) > -1000000000000 then (if x < 1000000000000 then x else 1000000000000) else -1000000000000)
  unfold In1 FARi
  by_cases h1 : x < 1000000000000
  · rw [if_pos h1]
    by_cases h2 : x > -1000000000000
    · rw [if_pos h2]; omega
    · rw [if_neg h2]; omega
  · rw [if_neg h1]
    decide
theorem unknown_ok {l : List D} {g : List Int} (hl : Dr l) (hg : g.length ≤ 1000) (hF : ∀ x ∈ g, In1 x) {Q : Ev → List Sl → Prop} (k : ∀ y l', Dr l' → In1 y → Q (.val (.int y)) [.ow (.list l'), .fz (.tuple (iD g))]) : m_L_unknown [.ow (.list l), .fz (.tuple (iD g))] Q := by
  unfold m_L_unknown b_L_unknown
  have hD := @draw_ok
  generalize m_L_draw = mD at hD ⊢
  have hK := @pick_ok
  generalize m_L_pick = mK at hK ⊢
  have hW := @within_ok
  generalize m_L_within = mW at hW ⊢
  have hR := @far_ok
  generalize m_L_far = mR at hR ⊢
  have hgl := iD_len g
  have hm := fun {d : D} (h : d ∈ iD g) => mem_iD h
  generalize iD g = X at *
  walk_at "w"
  refine hD (by decide) (by decide) hl fun way l2 a0 a1 hl2 => ?_
  have tail : ∀ E : DEn, (∀ y l', Dr l' → In1 y → E.rt (.val (.int y)) [.ow (.list l'), .fz (.tuple X), .fz (.int way)]) → (sRet [0, 1] (eCall mR 1 [true] (aCons (eVar 0) aNil))) E [.ow (.list l2), .fz (.tuple X), .fz (.int way)] := by
    intro E hQ
    refine hR hl2 fun y l3 hl3 hy => ?_
    exact hQ y l3 hl3 hy
  have rest : ∀ E : DEn, (∀ y l', Dr l' → In1 y → E.rt (.val (.int y)) [.ow (.list l'), .fz (.tuple X), .fz (.int way)]) →
      (sSeq (sIf (tB (eOp oEq (eVar 2) (eC (.int 4)))) (sRet [0, 1] (eCall mK 2 [true, false] (aCons (eVar 0) (aCons (eLst (aCons (eOp oPow (eC (.int 10)) (eC (.int 12))) (aCons (eNeg (eOp oPow (eC (.int 10)) (eC (.int 12)))) (aCons (eC (.int 0)) aNil)))) aNil)))) sNil)
    (sRet [0, 1] (eCall mR 1 [true] (aCons (eVar 0) aNil)))) E [.ow (.list l2), .fz (.tuple X), .fz (.int way)] := by
    intro E hE
    refine oEq_i (decide (way = 4)) (eqv_int _ _) (dInt _ _) ?_
    refine br_i (fun h2 => ?_) (fun h2 => ?_)
    · walk_at "w"
      refine ⟨cpow12, ?_⟩
      walk_at "w"
      refine ⟨cpow12, ?_⟩
      walk_at "w"
      refine hK hl2 (.fl _) (by simp) (by simp) fun d l3 hd hl3 => ?_
      obtain ⟨y, rfl, hy⟩ : ∃ y, d = .int y ∧ In1 y := by
        simp only [List.mem_cons, List.not_mem_nil, or_false] at hd
        unfold In1 FARi
        rcases hd with rfl | rfl | rfl
        · exact ⟨_, rfl, by decide, by decide⟩
        · exact ⟨_, rfl, by decide, by decide⟩
        · exact ⟨_, rfl, by decide, by decide⟩
      exact hE _ _ hl3 hy
    · refine sNil_i ?_
      refine tail E fun y l3 hl3 hy => ?_
      exact hE _ _ hl3 hy
  refine br_i (fun h1 => ?_) (fun h1 => ?_)
  · walk_at "w"
    refine br_i (fun h2 => ?_) (fun h2 => ?_)
    · have h2 : (0 : Int) < (X.length : Int) := of_decide_eq_true h2
      walk_at "w"
      refine hK hl2 (.ft _) (by intro e; rw [e] at h2; simp at h2) (by omega) fun d l3 hd hl3 => ?_
      obtain ⟨x, _, rfl⟩ := hm hd
      walk_at "w"
      refine hD (by decide) (by decide) hl3 fun r l4 c0 c1 hl4 => ?_
      walk_at "w"
      refine hW fun y hy => ?_
      exact k _ _ hl4 hy
    · refine rest _ fun y l3 hl3 hy => ?_
      exact k _ _ hl3 hy
  · refine rest _ fun y l3 hl3 hy => ?_
    exact k _ _ hl3 hy
end K60
end
section
set_option Elab.async false
set_option linter.all false
set_option maxRecDepth 100000
set_option maxHeartbeats 4000000
namespace K60
open PySem L2 PV
local macro_rules | `(tactic| walk_at "w") => `(tactic| (conv => whnf))
theorem gv_1 {E : DEn} {l : List D} {xs : List Int} {way : Int} {s2 : Sl} (hl : Dr l) (hx : ∀ x ∈ xs, In1 x) (hxl : xs.length ≤ 1000)
    (k : ∀ y l', Dr l' → In1 y → E.nx [.ow (.list l'), .ow (.list (iD (xs ++ [y]))), s2, .fz (.int way)]) :
    (sIf (tB (eOp oLt (eVar 3) (eC (.int 3)))) (sEx (eMut 1 mApp (aCons (eOp oSub (eCall m_L_draw 2 [true, false] (aCons (eVar 0) (aCons (eC (.int 12)) aNil))) (eC (.int 4))) aNil))) (sIf (tB (eOp oEq (eVar 3) (eC (.int 3)))) (sEx (eMut 1 mApp (aCons (eOp oSub (eOp oPow (eC (.int 10)) (eC (.int 12))) (eCall m_L_draw 2 [true, false] (aCons (eVar 0) (aCons (eC (.int 9)) aNil)))) aNil))) (sIf (tB (eOp oEq (eVar 3) (eC (.int 4)))) (sEx (eMut 1 mApp (aCons (eOp oSub (eCall m_L_draw 2 [true, false] (aCons (eVar 0) (aCons (eC (.int 9)) aNil))) (eOp oPow (eC (.int 10)) (eC (.int 12)))) aNil))) (sIf (tAnd (tB (eOp oLt (eVar 3) (eC (.int 7)))) (tB (eOp oGt (eBi cLen (aCons (eVar 1) aNil)) (eC (.int 0))))) (sEx (eMut 1 mApp (aCons (eCall m_L_within 1 [false] (aCons (eOp oSub (eOp oAdd (eCall m_L_pick 2 [true, true] (aCons (eVar 0) (aCons (eVar 1) aNil))) (eCall m_L_draw 2 [true, false] (aCons (eVar 0) (aCons (eC (.int 13)) aNil)))) (eC (.int 6))) aNil)) aNil))) (sEx (eMut 1 mApp (aCons (eCall m_L_far 1 [true] (aCons (eVar 0) aNil)) aNil))))))) E [.ow (.list l), .ow (.list (iD xs)), s2, .fz (.int way)] := by
  have k := fun y l' h1 h2 => by
    have kk := k y l' h1 h2
    rw [iD_app] at kk
    exact kk
  have hD := @draw_ok
  generalize m_L_draw = mD at hD ⊢
  have hK := @pick_ok
  generalize m_L_pick = mK at hK ⊢
  have hW := @within_ok
  generalize m_L_within = mW at hW ⊢
  have hR := @far_ok
  generalize m_L_far = mR at hR ⊢
  have hgl := iD_len xs
  have hm := fun {d : D} (h : d ∈ iD xs) => mem_iD h
  generalize iD xs = X at *
  have tail : (sEx (eMut 1 mApp (aCons (eCall mR 1 [true] (aCons (eVar 0) aNil)) aNil))) E [.ow (.list l), .ow (.list X), s2, .fz (.int way)] := by
    walk_at "w"
    refine hR hl fun y l3 hl3 hy => ?_
    walk_at "w"
    refine ⟨by omega, ?_⟩
    exact k _ _ hl3 hy
  generalize (sEx (eMut 1 mApp (aCons (eCall mR 1 [true] (aCons (eVar 0) aNil)) aNil))) = TL at tail ⊢
  walk_at "w"
  refine br_i (fun h1 => ?_) (fun h1 => ?_)
  · walk_at "w"
    refine hD (by decide) (by decide) hl fun r l2 a0 a1 hl2 => ?_
    walk_at "w"
    refine ⟨by omega, ?_⟩
    exact k _ _ hl2 (by unfold In1 FARi; omega)
  · refine oEq_i (decide (way = 3)) (eqv_int _ _) (dInt _ _) ?_
    refine br_i (fun h2 => ?_) (fun h2 => ?_)
    · walk_at "w"
      refine ⟨cpow12, ?_⟩
      walk_at "w"
      refine hD (by decide) (by decide) hl fun r l2 a0 a1 hl2 => ?_
      walk_at "w"
      refine ⟨by omega, ?_⟩
      refine k _ _ hl2 ?_
      show In1 (1000000000000 - r)
      unfold In1 FARi; omega
    · refine oEq_i (decide (way = 4)) (eqv_int _ _) (dInt _ _) ?_
      refine br_i (fun h3 => ?_) (fun h3 => ?_)
      · walk_at "w"
        refine hD (by decide) (by decide) hl fun r l2 a0 a1 hl2 => ?_
        walk_at "w"
        refine ⟨cpow12, ?_⟩
        walk_at "w"
        refine ⟨by omega, ?_⟩
        refine k _ _ hl2 ?_
        show In1 (r - 1000000000000)
        unfold In1 FARi; omega
      · walk_at "w"
        refine br_i (fun h4 => ?_) (fun h4 => ?_)
        · walk_at "w"
          refine br_i (fun h5 => ?_) (fun h5 => ?_)
          · have h5 : (0 : Int) < (X.length : Int) := of_decide_eq_true h5
            walk_at "w"
            refine hK hl (.ow _) (by intro e; rw [e] at h5; simp at h5) (by omega) fun d l2 hd hl2 => ?_
            obtain ⟨x, _, rfl⟩ := hm hd
            walk_at "w"
            refine hD (by decide) (by decide) hl2 fun r l3 a0 a1 hl3 => ?_
            walk_at "w"
            refine hW fun y hy => ?_
            walk_at "w"
            refine ⟨by omega, ?_⟩
            exact k _ _ hl3 hy
          · exact tail
        · exact tail
theorem gv_0 {T : DSt} {E : DEn} {l : List D} {s1 s2 s3 : Sl} (hl : Dr l) (k : ∀ l', Dr l' → T E [.ow (.list l'), .ow (.list []), s2, s3]) : (sSeq (sSet 1 (eLst aNil)) T) E [.ow (.list l), s1, s2, s3] := k l hl
theorem gv_d {T : DSt} {E : DEn} {l : List D} {s1 s2 s3 : Sl} (hl : Dr l) (k : ∀ r l', Dr l' → T E [.ow (.list l'), s1, s2, .fz (.int r)]) : (sSeq (sSet 3 (eCall m_L_draw 2 [true, false] (aCons (eVar 0) (aCons (eC (.int 8)) aNil)))) T) E [.ow (.list l), s1, s2, s3] := by
  have hD := @draw_ok
  generalize m_L_draw = mD at hD ⊢
  walk_at "w"
  refine hD (by decide) (by decide) hl fun r l2 a0 a1 hl2 => ?_
  exact k _ _ hl2
theorem set2 {C : DS → Prop} {x : D} {s0 s1 s2 s3 : Sl} (h : C [s0, s1, .fz x, s3]) : gN 2 x [s0, s1, s2, s3] C := h
theorem gv_l {T : DSt} {E : DEn} {l : List D} {s2 s3 : Sl} (hl : Dr l) (k : ∀ xs l' s2 s3, Dr l' → (∀ x ∈ xs, In1 x) → xs.length ≤ 30 → T E [.ow (.list l'), .ow (.list (iD xs)), s2, s3]) :
    (sSeq (sFor (iRange1 (aCons (eIf (tB (eOp oEq (eCall m_L_draw 2 [true, false] (aCons (eVar 0) (aCons (eC (.int 16)) aNil))) (eC (.int 9)))) (eC (.int 30)) (eCall m_L_draw 2 [true, false] (aCons (eVar 0) (aCons (eC (.int 9)) aNil)))) aNil)) (gN 2) (sSeq (sSet 3 (eCall m_L_draw 2 [true, false] (aCons (eVar 0) (aCons (eC (.int 8)) aNil))))
    (sIf (tB (eOp oLt (eVar 3) (eC (.int 3)))) (sEx (eMut 1 mApp (aCons (eOp oSub (eCall m_L_draw 2 [true, false] (aCons (eVar 0) (aCons (eC (.int 12)) aNil))) (eC (.int 4))) aNil))) (sIf (tB (eOp oEq (eVar 3) (eC (.int 3)))) (sEx (eMut 1 mApp (aCons (eOp oSub (eOp oPow (eC (.int 10)) (eC (.int 12))) (eCall m_L_draw 2 [true, false] (aCons (eVar 0) (aCons (eC (.int 9)) aNil)))) aNil))) (sIf (tB (eOp oEq (eVar 3) (eC (.int 4)))) (sEx (eMut 1 mApp (aCons (eOp oSub (eCall m_L_draw 2 [true, false] (aCons (eVar 0) (aCons (eC (.int 9)) aNil))) (eOp oPow (eC (.int 10)) (eC (.int 12)))) aNil))) (sIf (tAnd (tB (eOp oLt (eVar 3) (eC (.int 7)))) (tB (eOp oGt (eBi cLen (aCons (eVar 1) aNil)) (eC (.int 0))))) (sEx (eMut 1 mApp (aCons (eCall m_L_within 1 [false] (aCons (eOp oSub (eOp oAdd (eCall m_L_pick 2 [true, true] (aCons (eVar 0) (aCons (eVar 1) aNil))) (eCall m_L_draw 2 [true, false] (aCons (eVar 0) (aCons (eC (.int 13)) aNil)))) (eC (.int 6))) aNil)) aNil))) (sEx (eMut 1 mApp (aCons (eCall m_L_far 1 [true] (aCons (eVar 0) aNil)) aNil))))))))) T) E [.ow (.list l), .ow (.list []), s2, s3] := by
  have h0 := @gv_d
  have h1 := @gv_1
  generalize (sSet 3 (eCall m_L_draw 2 [true, false] (aCons (eVar 0) (aCons (eC (.int 8)) aNil)))) = B0 at h0 ⊢
  generalize (sIf (tB (eOp oLt (eVar 3) (eC (.int 3)))) (sEx (eMut 1 mApp (aCons (eOp oSub (eCall m_L_draw 2 [true, false] (aCons (eVar 0) (aCons (eC (.int 12)) aNil))) (eC (.int 4))) aNil))) (sIf (tB (eOp oEq (eVar 3) (eC (.int 3)))) (sEx (eMut 1 mApp (aCons (eOp oSub (eOp oPow (eC (.int 10)) (eC (.int 12))) (eCall m_L_draw 2 [true, false] (aCons (eVar 0) (aCons (eC (.int 9)) aNil)))) aNil))) (sIf (tB (eOp oEq (eVar 3) (eC (.int 4)))) (sEx (eMut 1 mApp (aCons (eOp oSub (eCall m_L_draw 2 [true, false] (aCons (eVar 0) (aCons (eC (.int 9)) aNil))) (eOp oPow (eC (.int 10)) (eC (.int 12)))) aNil))) (sIf (tAnd (tB (eOp oLt (eVar 3) (eC (.int 7)))) (tB (eOp oGt (eBi cLen (aCons (eVar 1) aNil)) (eC (.int 0))))) (sEx (eMut 1 mApp (aCons (eCall m_L_within 1 [false] (aCons (eOp oSub (eOp oAdd (eCall m_L_pick 2 [true, true] (aCons (eVar 0) (aCons (eVar 1) aNil))) (eCall m_L_draw 2 [true, false] (aCons (eVar 0) (aCons (eC (.int 13)) aNil)))) (eC (.int 6))) aNil)) aNil))) (sEx (eMut 1 mApp (aCons (eCall m_L_far 1 [true] (aCons (eVar 0) aNil)) aNil))))))) = B1 at h1 ⊢
  have go : ∀ (n : Nat) (l : List D), n ≤ 30 → Dr l → forGo (guard none (rngD 0 (n : Int).toNat)) (gN 2) (sSeq B0 B1) (rngD 0 (n : Int).toNat) { E with nx := T E } [.ow (.list l), .ow (.list []), s2, s3] := by
    intro n l hn hl
    refine forGo_rng (ds := [.ow (.list l), .ow (.list []), s2, s3]) (fun j ds => j ≤ n ∧ ∃ xs l' s2 s3, Dr l' ∧ (∀ x ∈ xs, In1 x) ∧ xs.length = j ∧ ds = [.ow (.list l'), .ow (.list (iD xs)), s2, s3]) ⟨Nat.zero_le _, [], l, s2, s3, hl, by simp, rfl, rfl⟩ ?_ ?_
    · rintro j ds N hj ⟨_, xs, l', s2, s3, hl', hx, hxl, rfl⟩ hN
      rw [Int.toNat_natCast] at hj
      refine set2 ?_
      refine h0 hl' fun r l2 hl2 => ?_
      refine h1 hl2 hx (by omega) fun y l3 hl3 hy => ?_
      refine hN _ ⟨by omega, xs ++ [y], l3, _, _, hl3, fun x hx2 => ?_, by simp; omega, rfl⟩
      rcases List.mem_append.mp hx2 with h | h
      · exact hx x h
      · simp at h; subst h; exact hy
    · rintro ds ⟨hn2, xs, l', s2, s3, hl', hx, hxl, rfl⟩
      rw [Int.toNat_natCast] at hxl
      exact k _ _ _ _ hl' hx (by omega)
  generalize (sSeq B0 B1) = B at go ⊢
  have hD := @draw_ok
  generalize m_L_draw = mD at hD ⊢
  walk_at "w"
  refine hD (by decide) (by decide) hl fun r l2 a0 a1 hl2 => ?_
  walk_at "w"
  refine oEq_i (decide (r = 9)) (eqv_int _ _) (dInt _ _) ?_
  refine br_i (fun h1 => ?_) (fun h1 => ?_)
  · refine ⟨by unfold bnd62; omega, ?_⟩
    exact go 30 l2 (by omega) hl2
  · refine hD (by decide) (by decide) hl2 fun r l3 a0 a1 hl3 => ?_
    obtain ⟨n, rfl⟩ := Int.eq_ofNat_of_zero_le a0
    refine ⟨by unfold bnd62; omega, ?_⟩
    exact go n l3 (by omega) hl3
theorem given_ok {l : List D} (hl : Dr l) {Q : Ev → List Sl → Prop} (k : ∀ g l', Dr l' → (∀ x ∈ g, In1 x) → g.length ≤ 30 → Q (.val (.tuple (iD g))) [.ow (.list l')]) : m_L_given [.ow (.list l)] Q := by
  unfold m_L_given b_L_given
  have run : ∀ {body : DSt}, body { nx := fun ds => Q (.val .none) (backA [.ow (.list l)] ds), rt := fun ev ds => retOk ev (Q ev (backA [.ow (.list l)] ds)) } [.ow (.list l), .no, .no, .no] → runF [true] 3 body [.ow (.list l)] Q := fun h => h
  refine run ?_
  refine gv_0 hl fun l hl => ?_
  refine gv_l hl fun xs l' s2 s3 hl' hx hxl => ?_
  walk_at "w"
  exact k _ _ hl' hx hxl
end K60
end
section
set_option Elab.async false
set_option linter.all false
set_option maxRecDepth 100000
set_option maxHeartbeats 4000000
namespace K60
open PySem L2 PV
local macro_rules | `(tactic| walk_at "w") => `(tactic| (conv => whnf))
def SoOk (m : Nat) (d : D) : Prop := ∃ s : List Int, d = .list (iD s) ∧ s.length = min m 3 ∧ ∀ x ∈ s, In1 x
theorem lo_0 {T : DSt} {E : DEn} {l : List D} {s1 s2 s3 s4 s5 : Sl} (hl : Dr l) (k : ∀ g l', Dr l' → (∀ x ∈ g, In1 x) → g.length ≤ 30 → T E [.ow (.list l'), .fz (.tuple (iD g)), s2, s3, s4, s5]) : (sSeq (sSet 1 (eCall m_L_given 1 [true] (aCons (eVar 0) aNil))) T) E [.ow (.list l), s1, s2, s3, s4, s5] := by
  have hG := @given_ok
  generalize m_L_given = mG at hG ⊢
  walk_at "w"
  refine hG hl fun g l2 hl2 h1 h2 => ?_
  exact k _ _ hl2 h1 h2
theorem lo_1 {T : DSt} {E : DEn} {l : List D} {s1 s2 s3 s4 s5 : Sl} (hl : Dr l) (k : ∀ (m : Nat) l', Dr l' → m ≤ 16 → T E [.ow (.list l'), s1, .fz (.int (m : Int)), s3, s4, s5]) : (sSeq (sSet 2 (eIf (tB (eOp oEq (eCall m_L_draw 2 [true, false] (aCons (eVar 0) (aCons (eC (.int 8)) aNil))) (eC (.int 5)))) (eCall m_L_draw 2 [true, false] (aCons (eVar 0) (aCons (eC (.int 17)) aNil))) (eCall m_L_draw 2 [true, false] (aCons (eVar 0) (aCons (eC (.int 7)) aNil))))) T) E [.ow (.list l), s1, s2, s3, s4, s5] := by
  have hD := @draw_ok
  generalize m_L_draw = mD at hD ⊢
  walk_at "w"
  refine hD (by decide) (by decide) hl fun r l2 a0 a1 hl2 => ?_
  walk_at "w"
  refine oEq_i (decide (r = 5)) (eqv_int _ _) (dInt _ _) ?_
  refine br_i (fun h1 => ?_) (fun h1 => ?_)
  · refine hD (by decide) (by decide) hl2 fun r l3 a0 a1 hl3 => ?_
    obtain ⟨n, rfl⟩ := Int.eq_ofNat_of_zero_le a0
    exact k n _ hl3 (by omega)
  · refine hD (by decide) (by decide) hl2 fun r l3 a0 a1 hl3 => ?_
    obtain ⟨n, rfl⟩ := Int.eq_ofNat_of_zero_le a0
    exact k n _ hl3 (by omega)
theorem lo_3t {mU : DSp} {l X acc : List D} {x : D} {s2 s3 s4 s5 : Sl} {N : List D → DS → Prop} (hU : ∀ {Q : Ev → List Sl → Prop}, (∀ y l', Dr l' → In1 y → Q (.val (.int y)) [.ow (.list l'), .fz (.tuple X)]) → mU [.ow (.list l), .fz (.tuple X)] Q)
    (k : ∀ y l', Dr l' → In1 y → acc.length < 16777216 ∧ N (acc ++ [.int y]) [.ow (.list l'), .fz (.tuple X), s2, s3, s4, s5]) :
    gN 5 x (wipD [.ow (.list l), .fz (.tuple X), s2, s3, s4, s5] [5]) fun ds1 => tTrue ds1 fun b ds2 => br b
      ((eFz (eCall mU 2 [true, true] (aCons (eVar 0) (aCons (eVar 1) aNil)))) ds2 fun d ds3 => acc.length < 16777216 ∧ N (acc ++ [d]) (rstD [.ow (.list l), .fz (.tuple X), s2, s3, s4, s5] [5] ds3))
      (N acc (rstD [.ow (.list l), .fz (.tuple X), s2, s3, s4, s5] [5] ds2)) := by
  refine gN_i rfl ?_
  refine hU fun y l' hl' hy => ?_
  exact k y l' hl' hy
theorem lo_3g {n : Nat} {g : List Int} {l : List D} {s2 s3 s4 s5 : Sl} {Pq : List D → DS → Prop} (hl : Dr l) (hg : g.length ≤ 1000) (hF : ∀ x ∈ g, In1 x) (hn : n ≤ 3) (k : ∀ s l', Dr l' → s.length = n → (∀ x ∈ s, In1 x) → Pq (iD s) [.ow (.list l'), .fz (.tuple (iD g)), s2, s3, s4, s5]) :
    lcGo (guard none (rngD 0 n)) [5] (gN 5) tTrue (eFz (eCall m_L_unknown 2 [true, true] (aCons (eVar 0) (aCons (eVar 1) aNil)))) (rngD 0 n) [] [.ow (.list l), .fz (.tuple (iD g)), s2, s3, s4, s5] Pq := by
  have hU := fun {l : List D} (hl : Dr l) {Q : Ev → List Sl → Prop} => @unknown_ok l g hl hg hF Q
  generalize m_L_unknown = mU at hU ⊢
  generalize iD g = X at *
  refine lcGo_inv (fun pre post acc ds => ∃ (s : List Int) (l' : List D), Dr l' ∧ acc = iD s ∧ (∀ x ∈ s, In1 x) ∧ s.length = pre.length ∧ pre.length + post.length = n ∧ ds = [.ow (.list l'), .fz (.tuple X), s2, s3, s4, s5]) (fun {pre post acc ds P} _ p => p) ?_ ?_ (pre := []) ⟨[], l, hl, rfl, by simp, rfl, by simp [rngD], rfl⟩
  · rintro pre x post acc ds N ⟨s, l', hl', rfl, hs, hsl, hpl, rfl⟩ kN
    rw [List.length_cons] at hpl
    have hal := iD_len s
    refine lo_3t (fun {Q} => hU hl') fun y l2 hl2 hy => ⟨by omega, ?_⟩
    refine kN _ _ ⟨s ++ [y], l2, hl2, by rw [iD_app]; rfl, fun z hz => ?_, by simp; omega, by simp; omega, rfl⟩
    rcases List.mem_append.mp hz with h | h
    · exact hs z h
    · simp at h; subst h; exact hy
  · rintro pre acc ds ⟨s, l', hl', rfl, hs, hsl, hpl, rfl⟩
    exact k s l' hl' (by simp at hpl; omega) hs
theorem lo_3b {E : DEn} {m : Nat} {g : List Int} {l S : List D} {s4 s5 : Sl} (hl : Dr l) (hg : g.length ≤ 1000) (hF : ∀ x ∈ g, In1 x) (hm : m ≤ 100) (hS : S.length ≤ 1000)
    (k : ∀ d l', Dr l' → SoOk m d → E.nx [.ow (.list l'), .fz (.tuple (iD g)), .fz (.int (m : Int)), .ow (.list (S ++ [d])), s4, s5]) :
    (sEx (eMut 3 mApp (aCons (eLc (iRange1 (aCons (eBi cMin2 (aCons (eVar 2) (aCons (eC (.int 3)) aNil))) aNil)) [5] (gN 5) tTrue (eFz (eCall m_L_unknown 2 [true, true] (aCons (eVar 0) (aCons (eVar 1) aNil))))) aNil))) E [.ow (.list l), .fz (.tuple (iD g)), .fz (.int (m : Int)), .ow (.list S), s4, s5] := by
  have hg2 := fun {n : Nat} {Pq : List D → DS → Prop} => @lo_3g n g l (.fz (.int (m : Int))) (.ow (.list S)) s4 s5 Pq hl hg hF
  generalize (eFz (eCall m_L_unknown 2 [true, true] (aCons (eVar 0) (aCons (eVar 1) aNil)))) = F at hg2 ⊢
  generalize iD g = X at *
  have em : (if (3 : Int) < (m : Int) then (3 : Int) else (m : Int)) = ((min m 3 : Nat) : Int) := by
    by_cases h : 3 < m
    · rw [if_pos (by omega), Nat.min_eq_right (by omega)]; rfl
    · rw [if_neg (by omega), Nat.min_eq_left (by omega)]
  walk_at "w"
  rw [em]
  refine ⟨by unfold bnd62; omega, ?_⟩
  rw [Int.toNat_natCast]
  refine hg2 (Nat.min_le_right _ _) fun s l2 hl2 hsl hs => ?_
  walk_at "w"
  refine ⟨by omega, ?_⟩
  exact k _ _ hl2 ⟨s, rfl, hsl, hs⟩
theorem lo_2 {T : DSt} {E : DEn} {s0 s1 s2 s3 s4 s5 : Sl} (k : T E [s0, s1, s2, .ow (.list []), s4, s5]) : (sSeq (sSet 3 (eLst aNil)) T) E [s0, s1, s2, s3, s4, s5] := k
theorem set4l {C : DS → Prop} {x : D} {s0 s1 s2 s3 s4 s5 : Sl} (h : C [s0, s1, s2, s3, .fz x, s5]) : gN 4 x [s0, s1, s2, s3, s4, s5] C := h
theorem lo_3 {T : DSt} {E : DEn} {m : Nat} {g : List Int} {l : List D} {s4 s5 : Sl} (hl : Dr l) (hg : g.length ≤ 1000) (hF : ∀ x ∈ g, In1 x) (hm : m ≤ 100)
    (k : ∀ S l' s4, Dr l' → (∀ d ∈ S, SoOk m d) → S.length = 3 → T E [.ow (.list l'), .fz (.tuple (iD g)), .fz (.int (m : Int)), .ow (.list S), s4, s5]) :
    (sSeq (sFor (iRange1 (aCons (eC (.int 3)) aNil)) (gN 4) (sEx (eMut 3 mApp (aCons (eLc (iRange1 (aCons (eBi cMin2 (aCons (eVar 2) (aCons (eC (.int 3)) aNil))) aNil)) [5] (gN 5) tTrue (eFz (eCall m_L_unknown 2 [true, true] (aCons (eVar 0) (aCons (eVar 1) aNil))))) aNil)))) T) E [.ow (.list l), .fz (.tuple (iD g)), .fz (.int (m : Int)), .ow (.list []), s4, s5] := by
  have h1 := @lo_3b
  generalize (sEx (eMut 3 mApp (aCons (eLc (iRange1 (aCons (eBi cMin2 (aCons (eVar 2) (aCons (eC (.int 3)) aNil))) aNil)) [5] (gN 5) tTrue (eFz (eCall m_L_unknown 2 [true, true] (aCons (eVar 0) (aCons (eVar 1) aNil))))) aNil))) = B1 at h1 ⊢
  refine ⟨by unfold bnd62; omega, ?_⟩
  refine forGo_rng (ds := [.ow (.list l), .fz (.tuple (iD g)), .fz (.int (m : Int)), .ow (.list []), s4, s5]) (fun j ds => ∃ S l' s4, Dr l' ∧ (∀ d ∈ S, SoOk m d) ∧ S.length = j ∧ ds = [.ow (.list l'), .fz (.tuple (iD g)), .fz (.int (m : Int)), .ow (.list S), s4, s5]) ⟨[], l, s4, hl, by simp, rfl, rfl⟩ ?_ ?_
  · rintro j ds N hj ⟨S, l', s4, hl', hS, hSl, rfl⟩ hN
    have hj : j < 3 := hj
    refine set4l ?_
    refine h1 hl' hg hF hm (by omega) fun d l2 hl2 hd => ?_
    refine hN _ ⟨S ++ [d], l2, _, hl2, fun e he => ?_, by simp; omega, rfl⟩
    rcases List.mem_append.mp he with h | h
    · exact hS e h
    · simp at h; subst h; exact hd
  · rintro ds ⟨S, l', s4, hl', hS, hSl, rfl⟩
    exact k _ _ _ hl' hS hSl
def LotOk (d : D) : Prop := ∃ (g : List Int) (m : Nat) (S : List D), d = .tuple [.tuple (iD g), .int (m : Int), .list S] ∧ (∀ x ∈ g, In1 x) ∧ g.length ≤ 30 ∧ m ≤ 16 ∧ ∀ d ∈ S, SoOk m d
theorem lot_ok {l : List D} (hl : Dr l) {Q : Ev → List Sl → Prop} (k : ∀ d l', Dr l' → LotOk d → Q (.val d) [.ow (.list l')]) : m_L_lot [.ow (.list l)] Q := by
  unfold m_L_lot b_L_lot
  have run : ∀ {body : DSt}, body { nx := fun ds => Q (.val .none) (backA [.ow (.list l)] ds), rt := fun ev ds => retOk ev (Q ev (backA [.ow (.list l)] ds)) } [.ow (.list l), .no, .no, .no, .no, .no] → runF [true] 5 body [.ow (.list l)] Q := fun h => h
  refine run ?_
  refine lo_0 hl fun g l hl hF hg => ?_
  refine lo_1 hl fun m l hl hm => ?_
  refine lo_2 ?_
  refine lo_3 hl (by omega) hF (by omega) fun S l s4 hl hS hSl => ?_
  walk_at "w"
  exact k _ _ hl ⟨g, m, S, rfl, hF, hg, hm, hS⟩
end K60
end
section
set_option Elab.async false
set_option linter.all false
set_option maxRecDepth 100000
set_option maxHeartbeats 4000000
namespace K60
open PySem L2 PV
local macro_rules | `(tactic| walk_at "w") => `(tactic| (conv => whnf))
structure Plain (g : List Int) (m : Nat) : Prop where
  own : pvL g m = ownL g m
  fit : ∀ x, (fitL g (pvL g m) x).length ≤ 20
  few : (pvL g m).length ≤ 4000
  ord : ∀ s : List Int, s.length = min m 3 → (∀ x ∈ s, In1 x) → ∃ φ, Fits g (pvL g m) s φ
theorem la_a {T : DSt} {E : DEn} {g : List Int} {m : Nat} {s0 s1 s2 s3 s6 s7 s8 s9 s10 : Sl} (hg : g.length ≤ 30) (hm : m ≤ 16) (hF : ∀ x ∈ g, In1 x) (k : T E [s0, s1, s2, s3, .fz (.tuple (iD g)), .fz (.int (m : Int)), s6, .fz (.tuple (iD (pvL g m))), s8, s9, s10]) :
    (sSeq (sSet 7 (eCall m_probe_values 2 [true, true] (aCons (eVar 4) (aCons (eVar 5) aNil)))) T) E [s0, s1, s2, s3, .fz (.tuple (iD g)), .fz (.int (m : Int)), s6, s7, s8, s9, s10] := by
  have hP := fun {Q : Ev → List Sl → Prop} => @probe_ok g m (by omega) (by omega) hF Q
  generalize m_probe_values = mP at hP ⊢
  generalize iD g = X at *
  walk_at "w"
  refine hP ?_
  exact k
theorem dep_list (a : List Int) (d : D) : min (PyData.list (iD a)).depth d.depth ≤ 60 := by
  have h : (PyData.list (iD a)).depth ≤ 1 := by
    unfold iD
    simp [PyData.depth, depthAll_ints]
  omega
theorem all_int (a : List Int) : isIntsD (.tuple (iD a)) = true := by
  show (List.map PyData.int a).all isIntD = true
  rw [List.all_map]
  exact List.all_eq_true.mpr fun x _ => rfl
theorem la_b {T : DSt} {E : DEn} {g : List Int} {m : Nat} {s0 s1 s2 s3 s6 s8 s9 s10 : Sl} (hg : g.length ≤ 30) (hm : m ≤ 16) (P : Plain g m) (k : T E [s0, s1, s2, s3, .fz (.tuple (iD g)), .fz (.int (m : Int)), s6, .fz (.tuple (iD (pvL g m))), s8, s9, s10]) :
    (sSeq (sIf (tOr (tNot (tTr (eCall m_L_is_ints 1 [true] (aCons (eVar 7) aNil)))) (tB (eOp oNe (eBi cList (aCons (eVar 7) aNil)) (eCall m_L_own_values 2 [true, true] (aCons (eVar 4) (aCons (eVar 5) aNil)))))) (sRet [0] (eC (.bool false))) sNil) T) E [s0, s1, s2, s3, .fz (.tuple (iD g)), .fz (.int (m : Int)), s6, .fz (.tuple (iD (pvL g m))), s8, s9, s10] := by
  have hI := fun {Q : Ev → List Sl → Prop} => @is_ints_ok (.tuple (iD (pvL g m))) Q (fun xs e => by cases e; rw [iD_len]; have := P.few; omega)
  rw [all_int] at hI
  have hO := fun {Q : Ev → List Sl → Prop} => @own_ok g m hg (by omega) Q
  rw [← P.own] at hO
  have hd := dep_list (pvL g m) (.list (iD (pvL g m)))
  have he : (!PyData.eqv (.list (iD (pvL g m))) (.list (iD (pvL g m)))) = false := by
    unfold iD
    rw [eqv_intsL]
    simp
  generalize m_L_is_ints = mI at hI ⊢
  generalize m_L_own_values = mO at hO ⊢
  generalize iD (pvL g m) = Y at *
  generalize iD g = X at *
  walk_at "w"
  refine hI ?_
  walk_at "w"
  refine hO ?_
  walk_at "w"
  refine oNe_i false he hd ?_
  exact k
theorem la_ct {mS : DSp} {X : D} {d f : D} {s0 s1 s2 s3 s5 s6 s7 s8 s9 s10 : Sl} {A : D → DS → Prop} {B : DS → Prop} (hS : ∀ {Q : Ev → List Sl → Prop}, Q (.val f) [.fz X, .fz d] → mS [.fz X, .fz d] Q) (k : A f [s0, s1, s2, s3, .fz X, s5, s6, s7, s8, s9, s10]) :
    gN 9 d (wipD [s0, s1, s2, s3, .fz X, s5, s6, s7, s8, s9, s10] [9]) fun ds1 => tTrue ds1 fun b ds2 => br b ((eFz (eCall mS 2 [true, true] (aCons (eVar 4) (aCons (eVar 9) aNil)))) ds2 fun d ds3 => A d (rstD [s0, s1, s2, s3, .fz X, s5, s6, s7, s8, s9, s10] [9] ds3)) (B (rstD [s0, s1, s2, s3, .fz X, s5, s6, s7, s8, s9, s10] [9] ds2)) := by
  refine gN_i rfl ?_
  refine hS ?_
  exact k
theorem la_c {T : DSt} {E : DEn} {g a : List Int} {s0 s1 s2 s3 s5 s6 s8 s9 s10 : Sl} (hg : g.length ≤ 30) (ha : a.length ≤ 4000) (k : T E [s0, s1, s2, s3, .fz (.tuple (iD g)), s5, s6, .fz (.tuple (iD a)), .ow (.list (spotsD g a)), s9, s10]) :
    (sSeq (sSet 8 (eLc (iSlot 7) [9] (gN 9) tTrue (eFz (eCall m_L_spot 2 [true, true] (aCons (eVar 4) (aCons (eVar 9) aNil)))))) T) E [s0, s1, s2, s3, .fz (.tuple (iD g)), s5, s6, .fz (.tuple (iD a)), s8, s9, s10] := by
  have hS := fun {x : Int} {Q : Ev → List Sl → Prop} => @spot_ok g x (by omega) Q
  generalize m_L_spot = mS at hS ⊢
  have hl := iD_len a
  have go : ∀ Pq : List D → DS → Prop, Pq (spotsD g a) [s0, s1, s2, s3, .fz (.tuple (iD g)), s5, s6, .fz (.tuple (iD a)), s8, s9, s10] →
      lcGo (guard none (iD a)) [9] (gN 9) tTrue (eFz (eCall mS 2 [true, true] (aCons (eVar 4) (aCons (eVar 9) aNil)))) (iD a) [] [s0, s1, s2, s3, .fz (.tuple (iD g)), s5, s6, .fz (.tuple (iD a)), s8, s9, s10] Pq := by
    intro Pq hP
    refine lcGo_fx (all := iD a) (fun d => match d with | .int i => spotD g i | d => d) (fun P p => p) (fun d hd A B hA => ?_) (fun _ h => h) (by rw [hl]; simp only [List.length_nil]; omega) ?_
    · obtain ⟨x, _, rfl⟩ := mem_iD hd
      exact la_ct (fun {Q} => hS) hA
    · rw [List.nil_append]
      have e : (iD a).map (fun d => match d with | .int i => spotD g i | d => d) = spotsD g a := by
        unfold spotsD iD
        rw [List.map_map]
        rfl
      rw [e]
      exact hP
  generalize iD a = Y at *
  generalize PyData.tuple (iD g) = X at *
  refine go _ ?_
  exact k
theorem la_dt {E : DEn} {g a s φ : List Int} {s0 s1 s2 s3 s5 s6 s9 : Sl} (hφ : Fits g a s φ) (hfit : ∀ x, (fitL g a x).length ≤ 20) (hg : g.length ≤ 30) (ha : a.length ≤ 4000) (hs : s.length ≤ 3)
    (k : E.nx [s0, s1, s2, s3, .fz (.tuple (iD g)), s5, s6, .fz (.tuple (iD a)), .ow (.list (spotsD g a)), s9, .fz (.list (iD s))]) :
    (sIf (tNot (tTr (eCall m_L_has_order 4 [true, true, true, true] (aCons (eVar 4) (aCons (eVar 7) (aCons (eVar 8) (aCons (eVar 10) aNil))))))) (sRet [0, 6] (eC (.bool false))) sNil) E [s0, s1, s2, s3, .fz (.tuple (iD g)), s5, s6, .fz (.tuple (iD a)), .ow (.list (spotsD g a)), s9, .fz (.list (iD s))] := by
  have hO := fun {Q : Ev → List Sl → Prop} => @has_order_ok g a s φ hφ hfit (by omega) (by omega) hs Q
  generalize m_L_has_order = mO at hO ⊢
  generalize spotsD g a = Z at *
  generalize iD a = Y at *
  generalize iD g = X at *
  generalize iD s = W at *
  walk_at "w"
  refine hO ?_
  exact k
theorem setX {C : DS → Prop} {x : D} {s0 s1 s2 s3 s4 s5 s6 s7 s8 s9 s10 : Sl} (h : C [s0, s1, s2, s3, s4, s5, s6, s7, s8, s9, .fz x]) : gN 10 x [s0, s1, s2, s3, s4, s5, s6, s7, s8, s9, s10] C := h
theorem la_d {E : DEn} {g : List Int} {S : List D} {m : Nat} {s0 s1 s2 s3 s5 s9 s10 : Sl} (P : Plain g m) (hg : g.length ≤ 30) (hS : ∀ d ∈ S, SoOk m d)
    (k : ∀ s10, E.nx [s0, s1, s2, s3, .fz (.tuple (iD g)), s5, .fz (.list S), .fz (.tuple (iD (pvL g m))), .ow (.list (spotsD g (pvL g m))), s9, s10]) :
    (sFor (iSlot 6) (gN 10) (sIf (tNot (tTr (eCall m_L_has_order 4 [true, true, true, true] (aCons (eVar 4) (aCons (eVar 7) (aCons (eVar 8) (aCons (eVar 10) aNil))))))) (sRet [0, 6] (eC (.bool false))) sNil)) E [s0, s1, s2, s3, .fz (.tuple (iD g)), s5, .fz (.list S), .fz (.tuple (iD (pvL g m))), .ow (.list (spotsD g (pvL g m))), s9, s10] := by
  have ht := fun {E : DEn} {s φ : List Int} => @la_dt E g (pvL g m) s φ
  generalize (sIf (tNot (tTr (eCall m_L_has_order 4 [true, true, true, true] (aCons (eVar 4) (aCons (eVar 7) (aCons (eVar 8) (aCons (eVar 10) aNil))))))) (sRet [0, 6] (eC (.bool false))) sNil) = B at ht ⊢
  have go : forGo (guard none S) (gN 10) B S E [s0, s1, s2, s3, .fz (.tuple (iD g)), s5, .fz (.list S), .fz (.tuple (iD (pvL g m))), .ow (.list (spotsD g (pvL g m))), s9, s10] := by
    refine forGo_inv (pre := []) (ds := [s0, s1, s2, s3, .fz (.tuple (iD g)), s5, .fz (.list S), .fz (.tuple (iD (pvL g m))), .ow (.list (spotsD g (pvL g m))), s9, s10]) (fun pre post ds => (∀ d ∈ post, SoOk m d) ∧ ∃ s10, ds = [s0, s1, s2, s3, .fz (.tuple (iD g)), s5, .fz (.list S), .fz (.tuple (iD (pvL g m))), .ow (.list (spotsD g (pvL g m))), s9, s10]) (fun {pre post ds Q} _ p => p) ?_ ?_ ⟨hS, s10, rfl⟩
    · rintro pre x post ds N ⟨hm, s10, rfl⟩ hN
      obtain ⟨s, rfl, hl, hs⟩ := hm x List.mem_cons_self
      obtain ⟨φ, hφ⟩ := P.ord s hl hs
      refine setX ?_
      refine ht hφ P.fit hg P.few (by omega) ?_
      exact hN _ ⟨fun d hd => hm d (List.mem_cons_of_mem _ hd), _, rfl⟩
    · rintro pre ds ⟨_, s10, rfl⟩
      exact k s10
  exact go
theorem set3 {C : DS → Prop} {x y z : D} {s0 s1 s2 s3 s4 s5 s6 s7 s8 s9 s10 : Sl} (h : C [s0, s1, s2, s3, .fz x, .fz y, .fz z, s7, s8, s9, s10]) : (gT 3 (gCs (gN 4) (gCs (gN 5) (gCs (gN 6) gNl)))) (.tuple [x, y, z]) [s0, s1, s2, s3, s4, s5, s6, s7, s8, s9, s10] C := h
theorem la_l {T : DSt} {E : DEn} {d1 d2 : D} {s0 s1 s4 s5 s6 s7 s8 s9 s10 : Sl} (h1 : LotOk d1) (h2 : LotOk d2) (hP : ∀ (g : List Int) (m : Nat), g.length ≤ 30 → m ≤ 16 → (∀ x ∈ g, In1 x) → Plain g m) (k : ∀ ds, T E ds) :
    (sSeq (sFor (iFz (eLst (aCons (eVar 2) (aCons (eVar 3) (aCons (eVar 2) aNil))))) (gT 3 (gCs (gN 4) (gCs (gN 5) (gCs (gN 6) gNl)))) (sSeq (sSet 7 (eCall m_probe_values 2 [true, true] (aCons (eVar 4) (aCons (eVar 5) aNil))))
    (sSeq (sIf (tOr (tNot (tTr (eCall m_L_is_ints 1 [true] (aCons (eVar 7) aNil)))) (tB (eOp oNe (eBi cList (aCons (eVar 7) aNil)) (eCall m_L_own_values 2 [true, true] (aCons (eVar 4) (aCons (eVar 5) aNil)))))) (sRet [0] (eC (.bool false))) sNil)
    (sSeq (sSet 8 (eLc (iSlot 7) [9] (gN 9) tTrue (eFz (eCall m_L_spot 2 [true, true] (aCons (eVar 4) (aCons (eVar 9) aNil))))))
    (sFor (iSlot 6) (gN 10) (sIf (tNot (tTr (eCall m_L_has_order 4 [true, true, true, true] (aCons (eVar 4) (aCons (eVar 7) (aCons (eVar 8) (aCons (eVar 10) aNil))))))) (sRet [0, 6] (eC (.bool false))) sNil)))))) T) E [s0, s1, .fz d1, .fz d2, s4, s5, s6, s7, s8, s9, s10] := by
  have a1 := @la_a
  have a2 := @la_b
  have a3 := @la_c
  have a4 := @la_d
  generalize (sSet 7 (eCall m_probe_values 2 [true, true] (aCons (eVar 4) (aCons (eVar 5) aNil)))) = B1 at a1 ⊢
  generalize (sIf (tOr (tNot (tTr (eCall m_L_is_ints 1 [true] (aCons (eVar 7) aNil)))) (tB (eOp oNe (eBi cList (aCons (eVar 7) aNil)) (eCall m_L_own_values 2 [true, true] (aCons (eVar 4) (aCons (eVar 5) aNil)))))) (sRet [0] (eC (.bool false))) sNil) = B2 at a2 ⊢
  generalize (sSet 8 (eLc (iSlot 7) [9] (gN 9) tTrue (eFz (eCall m_L_spot 2 [true, true] (aCons (eVar 4) (aCons (eVar 9) aNil)))))) = B3 at a3 ⊢
  generalize (sFor (iSlot 6) (gN 10) (sIf (tNot (tTr (eCall m_L_has_order 4 [true, true, true, true] (aCons (eVar 4) (aCons (eVar 7) (aCons (eVar 8) (aCons (eVar 10) aNil))))))) (sRet [0, 6] (eC (.bool false))) sNil)) = B4 at a4 ⊢
  have go : forGo (guard none [d1, d2, d1]) (gT 3 (gCs (gN 4) (gCs (gN 5) (gCs (gN 6) gNl)))) (sSeq B1 (sSeq B2 (sSeq B3 B4))) [d1, d2, d1] { E with nx := T E } [s0, s1, .fz d1, .fz d2, s4, s5, s6, s7, s8, s9, s10] := by
    refine forGo_inv (pre := []) (ds := [s0, s1, .fz d1, .fz d2, s4, s5, s6, s7, s8, s9, s10]) (fun pre post ds => (∀ d ∈ post, LotOk d) ∧ ∃ s4 s5 s6 s7 s8 s9 s10, ds = [s0, s1, .fz d1, .fz d2, s4, s5, s6, s7, s8, s9, s10]) (fun {pre post ds Q} _ p => p) ?_ ?_ ⟨fun d hd => ?_, s4, s5, s6, s7, s8, s9, s10, rfl⟩
    · rintro pre x post ds N ⟨hm, s4, s5, s6, s7, s8, s9, s10, rfl⟩ hN
      obtain ⟨g, m, S, rfl, hF, hg, hm2, hS⟩ := hm x List.mem_cons_self
      have P := hP g m hg hm2 hF
      refine set3 ?_
      refine a1 hg hm2 hF ?_
      refine a2 hg hm2 P ?_
      refine a3 hg P.few ?_
      refine a4 P hg hS fun s10 => ?_
      exact hN _ ⟨fun d hd => hm d (List.mem_cons_of_mem _ hd), _, _, _, _, _, _, _, rfl⟩
    · rintro pre ds _
      exact k ds
    · simp only [List.mem_cons, List.not_mem_nil, or_false] at hd
      rcases hd with rfl | rfl | rfl
      · exact h1
      · exact h2
      · exact h1
  exact go
theorem la_0 {T : DSt} {E : DEn} {ns : List Int} {s1 s2 s3 s4 s5 s6 s7 s8 s9 s10 : Sl} (h : ns.length ≤ 63) (k : ∀ l d1 d2, Dr l → LotOk d1 → LotOk d2 → T E [.fz (.list (ns.map PyData.int)), .ow (.list l), .fz d1, .fz d2, s4, s5, s6, s7, s8, s9, s10]) :
    (sSeq (sSet 1 (eCall m_L_begin 1 [true] (aCons (eVar 0) aNil))) (sSeq (sSet 2 (eCall m_L_lot 1 [true] (aCons (eVar 1) aNil))) (sSeq (sSet 3 (eCall m_L_lot 1 [true] (aCons (eVar 1) aNil))) T))) E [.fz (.list (ns.map PyData.int)), s1, s2, s3, s4, s5, s6, s7, s8, s9, s10] := by
  have hB := @begin_ok ns h
  generalize m_L_begin = mB at hB ⊢
  have hL := @lot_ok
  generalize m_L_lot = mL at hL ⊢
  generalize PyData.list (ns.map PyData.int) = Z at *
  walk_at "w"
  refine hB fun l hl => ?_
  walk_at "w"
  refine hL hl fun d1 l2 hl2 h1 => ?_
  walk_at "w"
  refine hL hl2 fun d2 l3 hl3 h2 => ?_
  exact k _ _ _ hl3 h1 h2
theorem law_of (hP : ∀ (g : List Int) (m : Nat), g.length ≤ 30 → m ≤ 16 → (∀ x ∈ g, In1 x) → Plain g m) : ∀ ns : List Int, ns.length ≤ 63 → m_law [.fz (.list (ns.map PyData.int))] fun ev _ => ev = .val (.bool true) := by
  intro ns h
  unfold m_law b_law
  refine la_0 h fun l d1 d2 hl h1 h2 => ?_
  refine la_l h1 h2 hP fun ds => ?_
  exact rfl
end K60
end
section
set_option Elab.async false
set_option linter.all false
set_option maxRecDepth 100000
set_option maxHeartbeats 4000000
namespace K60
open PySem L2 PV
local macro_rules | `(tactic| walk_at "w") => `(tactic| (conv => whnf))
theorem flt_le {l : List Int} {p q : Int → Bool} (h : ∀ z ∈ l, p z = true → q z = true) : (l.filter p).length ≤ (l.filter q).length := by
  induction l with
  | nil => simp
  | cons x l ih =>
    have ih := ih fun z hz => h z (List.mem_cons_of_mem _ hz)
    have hx := h x List.mem_cons_self
    cases hp : p x with
    | true => rw [List.filter_cons_of_pos hp, List.filter_cons_of_pos (hx hp), List.length_cons, List.length_cons]; omega
    | false =>
      rw [List.filter_cons_of_neg (by rw [hp]; exact Bool.false_ne_true)]
      cases hq : q x with
      | true => rw [List.filter_cons_of_pos hq, List.length_cons]; omega
      | false => rw [List.filter_cons_of_neg (by rw [hq]; exact Bool.false_ne_true)]; exact ih
theorem flt_lt {l : List Int} {p q : Int → Bool} (h : ∀ z ∈ l, p z = true → q z = true) {z : Int} (hz : z ∈ l) (h1 : q z = true) (h2 : p z = false) : (l.filter p).length < (l.filter q).length := by
  induction l with
  | nil => cases hz
  | cons x l ih =>
    have hl := fun z hz => h z (List.mem_cons_of_mem x hz)
    have hx := h x List.mem_cons_self
    rcases List.mem_cons.mp hz with rfl | hz
    · have := flt_le hl
      rw [List.filter_cons_of_pos h1, List.filter_cons_of_neg (by rw [h2]; exact Bool.false_ne_true), List.length_cons]; omega
    · have ih := ih hl hz
      cases hp : p x with
      | true => rw [List.filter_cons_of_pos hp, List.filter_cons_of_pos (hx hp), List.length_cons, List.length_cons]; omega
      | false =>
        rw [List.filter_cons_of_neg (by rw [hp]; exact Bool.false_ne_true)]
        cases hq : q x with
        | true => rw [List.filter_cons_of_pos hq, List.length_cons]; omega
        | false => rw [List.filter_cons_of_neg (by rw [hq]; exact Bool.false_ne_true)]; exact ih
/-- rising numbers from c on, below c + n -/
theorem span : ∀ {l : List Int} {c : Int} {n : Nat}, l.Pairwise (· < ·) → (∀ x ∈ l, c ≤ x ∧ x < c + n) → l.length ≤ n
  | [], _, _, _, _ => by simp
  | x :: l, c, n, h, hb => by
    obtain ⟨h1, h2⟩ := List.pairwise_cons.mp h
    have hx := hb x List.mem_cons_self
    cases n with
    | zero => simp at hx; omega
    | succ n =>
      have := span (l := l) (c := x + 1) (n := n) h2 fun y hy => ⟨by have := h1 y hy; omega, by have := (hb y (List.mem_cons_of_mem _ hy)).2; have := hx.1; omega⟩
      rw [List.length_cons]; omega
def cn (s : List Int) (a b : Int) : Nat := ((ssI s).filter fun z => decide (a < z) && decide (z < b)).length
theorem cn_span {s : List Int} {a b : Int} (h : a < b) : (cn s a b : Int) ≤ b - 1 - a := by
  have := span (l := (ssI s).filter fun z => decide (a < z) && decide (z < b)) (c := a + 1) (n := (b - 1 - a).toNat) ((ssI_up s).filter _) fun x hx => by
    have := (List.mem_filter.mp hx).2
    rw [Bool.and_eq_true, decide_eq_true_eq, decide_eq_true_eq] at this
    omega
  unfold cn
  omega
theorem cn_few {s : List Int} {a b x : Int} (hx : x ∈ s) (h : ¬ (a < x ∧ x < b)) : cn s a b + 1 ≤ s.length := by
  have h1 := flt_lt (l := ssI s) (p := fun z => decide (a < z) && decide (z < b)) (q := fun _ => true) (fun _ _ _ => rfl) (mem_ssI.mpr hx) rfl (by
    cases h2 : (decide (a < x) && decide (x < b)) with
    | false => rfl
    | true =>
      rw [Bool.and_eq_true, decide_eq_true_eq, decide_eq_true_eq] at h2
      exact absurd h2 h)
  rw [List.filter_eq_self.mpr fun _ _ => rfl] at h1
  have h2 := ssI_len s
  unfold cn
  omega
theorem cn_lt {s : List Int} {a b a' b' z : Int} (h1 : a' ≤ a) (h2 : b ≤ b') (hz : z ∈ s) (h3 : a' < z ∧ z < b') (h4 : ¬ (a < z ∧ z < b)) : cn s a b < cn s a' b' := by
  unfold cn
  refine flt_lt (fun y _ hy => ?_) (mem_ssI.mpr hz) ?_ ?_
  · rw [Bool.and_eq_true, decide_eq_true_eq, decide_eq_true_eq] at hy ⊢
    omega
  · rw [Bool.and_eq_true, decide_eq_true_eq, decide_eq_true_eq]
    exact h3
  · cases h5 : (decide (a < z) && decide (z < b)) with
    | false => rfl
    | true =>
      rw [Bool.and_eq_true, decide_eq_true_eq, decide_eq_true_eq] at h5
      exact absurd h5 h4
/-- what stands in the answer, if something is given -/
def Mem (g : List Int) (m : Nat) (x : Int) : Prop := (-FARi ≤ x ∧ x ≤ FARi) ∧ ((leastI g - m ≤ x ∧ x < leastI g) ∨ ∃ n ∈ g, n ≤ x ∧ x ≤ n + m)
theorem mem_own {g : List Int} {m : Nat} (h : g ≠ []) {x : Int} : x ∈ ownL g m ↔ Mem g m x := by
  unfold ownL
  rw [if_neg h, List.mem_filter, mem_ssI]
  unfold ownF inF Mem
  rw [List.mem_append, Bool.and_eq_true, decide_eq_true_eq, decide_eq_true_eq, List.mem_map, List.mem_flatMap, And.comm]
  refine and_congr Iff.rfl (or_congr ⟨?_, ?_⟩ ⟨?_, ?_⟩)
  · rintro ⟨i, hi, rfl⟩
    have := List.mem_range.mp hi
    omega
  · rintro ⟨h1, h2⟩
    exact ⟨(leastI g - 1 - x).toNat, List.mem_range.mpr (by omega), by omega⟩
  · rintro ⟨j, hj, hx⟩
    obtain ⟨i, hi, rfl⟩ := List.mem_map.mp hx
    have := List.mem_range.mp hi
    have hj := List.mem_range.mp hj
    refine ⟨g.getD j 0, ?_, by omega, by omega⟩
    rw [show g.getD j 0 = g[j] by simp [List.getD, hj]]
    exact List.getElem_mem hj
  · rintro ⟨n, hn, h1, h2⟩
    obtain ⟨j, hj, rfl⟩ := List.getElem_of_mem hn
    refine ⟨j, List.mem_range.mpr hj, List.mem_map.mpr ⟨(x - g[j]).toNat, List.mem_range.mpr (by omega), ?_⟩⟩
    rw [show g.getD j 0 = g[j] by simp [List.getD, hj]]
    omega
theorem mem_lows {m : Nat} {k x : Int} : x ∈ lowsL m k ↔ -FARi ≤ x ∧ k - m ≤ x ∧ x < k := by
  unfold lowsL
  rw [List.mem_filter, decide_eq_true_eq, List.mem_map]
  constructor
  · rintro ⟨⟨i, hi, rfl⟩, h⟩
    have := List.mem_range.mp hi
    omega
  · rintro ⟨h, h1, h2⟩
    exact ⟨⟨(x - (k - m)).toNat, List.mem_range.mpr (by omega), by omega⟩, h⟩
theorem mem_steps {m : Nat} {k l x : Int} : x ∈ stepsL k l m ↔ k < x ∧ x ≤ k + m ∧ x ≤ l := by
  unfold stepsL
  rw [List.mem_filter, decide_eq_true_eq, List.mem_map]
  constructor
  · rintro ⟨⟨i, hi, rfl⟩, h⟩
    have := List.mem_range.mp hi
    omega
  · rintro ⟨h1, h2, h⟩
    exact ⟨⟨(x - k - 1).toNat, List.mem_range.mpr (by omega), by omega⟩, h⟩
theorem mem_block {kn : List Int} {m i : Nat} {x : Int} : x ∈ blockL kn m i ↔ x = kn.getD i 0 ∨ (kn.getD i 0 < x ∧ x ≤ kn.getD i 0 + m ∧ x ≤ lastL kn i) := by
  unfold blockL
  rw [List.mem_cons, mem_steps]
theorem up_get {kn : List Int} (h : kn.Pairwise (· < ·)) {i j : Nat} (hij : i < j) (hj : j < kn.length) : kn.getD i 0 < kn.getD j 0 := by
  have hi : i < kn.length := by omega
  rw [show kn.getD i 0 = kn[i] by simp [List.getD, hi], show kn.getD j 0 = kn[j] by simp [List.getD, hj]]
  exact List.pairwise_iff_getElem.mp h i j hi hj hij
theorem map_up {n : Nat} {f : Nat → Int} (h : ∀ i j, i < j → f i < f j) : ((List.range n).map f).Pairwise (· < ·) :=
  List.pairwise_map.mpr (List.pairwise_lt_range.imp fun {a b} hab => h a b hab)
theorem last_le {kn : List Int} {i : Nat} (hF : ∀ x ∈ kn, -FARi ≤ x ∧ x ≤ FARi) : lastL kn i ≤ FARi := by
  unfold lastL
  split
  · rename_i h
    have : kn.getD (i + 1) 0 ∈ kn := by
      rw [show kn.getD (i + 1) 0 = kn[i + 1] by simp [List.getD, h]]
      exact List.getElem_mem h
    have := (hF _ this).2
    omega
  · exact Int.le_refl _
theorem block_up {kn : List Int} {m i : Nat} : (blockL kn m i).Pairwise (· < ·) := by
  unfold blockL
  refine List.pairwise_cons.mpr ⟨fun y hy => (mem_steps.mp hy).1, ?_⟩
  unfold stepsL
  exact (map_up fun a b hab => by omega).filter _
theorem pv_up {g : List Int} {m : Nat} (h : ssI g ≠ []) : (pvL g m).Pairwise (· < ·) := by
  unfold pvL
  rw [if_neg h]
  have hu := ssI_up g
  have hp := List.length_pos_iff.mpr h
  refine List.pairwise_append.mpr ⟨?_, ?_, fun x hx y hy => ?_⟩
  · unfold lowsL
    exact (map_up fun a b hab => by omega).filter _
  · refine List.pairwise_flatMap.mpr ⟨fun i _ => block_up, List.pairwise_lt_range.imp_of_mem fun {i j} hi hj hij x hx y hy => ?_⟩
    have hj := List.mem_range.mp hj
    have h1 := up_get hu hij hj
    have hy : (ssI g).getD j 0 ≤ y := by
      rcases mem_block.mp hy with e | e
      · omega
      · omega
    have h2 : (ssI g).getD (i + 1) 0 ≤ (ssI g).getD j 0 := by
      by_cases e : i + 1 = j
      · rw [e]; exact Int.le_refl _
      · exact Int.le_of_lt (up_get hu (by omega) hj)
    rcases mem_block.mp hx with e | ⟨_, _, e⟩
    · omega
    · unfold lastL at e
      rw [if_pos (by omega)] at e
      omega
  · have hx := (mem_lows.mp hx).2.2
    obtain ⟨i, hi, hy⟩ := List.mem_flatMap.mp hy
    have hi := List.mem_range.mp hi
    have h1 : (ssI g).getD 0 0 ≤ (ssI g).getD i 0 := by
      by_cases e : i = 0
      · rw [e]; exact Int.le_refl _
      · exact Int.le_of_lt (up_get hu (by omega) hi)
    rcases mem_block.mp hy with e | e
    · omega
    · omega
end K60
end
section
set_option Elab.async false
set_option linter.all false
set_option maxRecDepth 100000
set_option maxHeartbeats 4000000
namespace K60
open PySem L2 PV
local macro_rules | `(tactic| walk_at "w") => `(tactic| (conv => whnf))
theorem least0 {g : List Int} (h : g ≠ []) : (ssI g).getD 0 0 = leastI g := by
  have hs : ssI g ≠ [] := fun e => h (ssI_nil.mp e)
  have hp := List.length_pos_iff.mpr hs
  have hm : (ssI g).getD 0 0 ∈ g := mem_ssI.mp (by rw [show (ssI g).getD 0 0 = (ssI g)[0] by simp [List.getD, hp]]; exact List.getElem_mem hp)
  have h1 := least_le hm
  obtain ⟨j, hj, e⟩ := List.getElem_of_mem (mem_ssI.mpr (least_mem h))
  have h2 : (ssI g).getD 0 0 ≤ (ssI g).getD j 0 := by
    by_cases e : j = 0
    · rw [e]; exact Int.le_refl _
    · exact Int.le_of_lt (up_get (ssI_up g) (by omega) hj)
  rw [show (ssI g).getD j 0 = (ssI g)[j] by simp [List.getD, hj], e] at h2
  omega
theorem top_ix {kn : List Int} {x : Int} : ∀ (d j : Nat), kn.length - j = d → j < kn.length → kn.getD j 0 ≤ x → (∀ i, i + 1 < kn.length → kn.getD i 0 < kn.getD (i + 1) 0) → ∃ i, i < kn.length ∧ kn.getD i 0 ≤ x ∧ (i + 1 < kn.length → x < kn.getD (i + 1) 0) ∧ kn.getD j 0 ≤ kn.getD i 0
  | 0, j, hd, hj, _, _ => by omega
  | d + 1, j, hd, hj, h, hu => by
    by_cases c : j + 1 < kn.length ∧ kn.getD (j + 1) 0 ≤ x
    · obtain ⟨i, h1, h2, h3, h4⟩ := top_ix d (j + 1) (by omega) c.1 c.2 hu
      have := hu j c.1
      exact ⟨i, h1, h2, h3, by omega⟩
    · exact ⟨j, hj, h, fun h1 => by
        by_cases c2 : kn.getD (j + 1) 0 ≤ x
        · exact absurd ⟨h1, c2⟩ c
        · omega, Int.le_refl _⟩
theorem mem_pv {g : List Int} {m : Nat} (h : g ≠ []) (hF : ∀ x ∈ g, In1 x) {x : Int} : x ∈ pvL g m ↔ Mem g m x := by
  have hs : ssI g ≠ [] := fun e => h (ssI_nil.mp e)
  have hu := ssI_up g
  have hkF : ∀ x ∈ ssI g, -FARi ≤ x ∧ x ≤ FARi := fun x hx => hF x (mem_ssI.mp hx)
  have hl := hF _ (least_mem h)
  unfold In1 at hl
  unfold pvL
  rw [if_neg hs, least0 h, List.mem_append, mem_lows, List.mem_flatMap]
  unfold Mem
  constructor
  · rintro (⟨h1, h2, h3⟩ | ⟨i, hi, hx⟩)
    · exact ⟨⟨h1, by omega⟩, .inl ⟨h2, h3⟩⟩
    · have hi := List.mem_range.mp hi
      have hm : (ssI g).getD i 0 ∈ ssI g := by
        rw [show (ssI g).getD i 0 = (ssI g)[i] by simp [List.getD, hi]]
        exact List.getElem_mem hi
      have hb := hkF _ hm
      have hlast := last_le (i := i) hkF
      rcases mem_block.mp hx with e | ⟨e1, e2, e3⟩
      · exact ⟨⟨by omega, by omega⟩, .inr ⟨_, mem_ssI.mp hm, by omega, by omega⟩⟩
      · exact ⟨⟨by omega, by omega⟩, .inr ⟨_, mem_ssI.mp hm, by omega, by omega⟩⟩
  · rintro ⟨⟨h1, h2⟩, h3 | ⟨n, hn, h3, h4⟩⟩
    · exact .inl ⟨h1, h3.1, h3.2⟩
    · obtain ⟨j, hj, e⟩ := List.getElem_of_mem (mem_ssI.mpr hn)
      have e : (ssI g).getD j 0 = n := by rw [show (ssI g).getD j 0 = (ssI g)[j] by simp [List.getD, hj]]; exact e
      obtain ⟨i, i1, i2, i3, i4⟩ := top_ix (x := x) _ j rfl hj (by omega) (fun i hi => up_get hu (by omega) hi)
      refine .inr ⟨i, List.mem_range.mpr i1, mem_block.mpr ?_⟩
      by_cases c : x = (ssI g).getD i 0
      · exact .inl c
      · refine .inr ⟨by omega, by omega, ?_⟩
        unfold lastL
        split
        · rename_i hh
          have := i3 hh
          omega
        · exact h2
theorem own_up {g : List Int} {m : Nat} (h : g ≠ []) : (ownL g m).Pairwise (· < ·) := by
  unfold ownL
  rw [if_neg h]
  exact (ssI_up _).filter _
theorem pv_own {g : List Int} {m : Nat} (hF : ∀ x ∈ g, In1 x) : pvL g m = ownL g m := by
  by_cases h : g = []
  · subst h
    rfl
  · exact up_eq (pv_up fun e => h (ssI_nil.mp e)) (own_up h) fun k => by rw [mem_pv h hF, mem_own h]
theorem pv_few {g : List Int} {m : Nat} (hg : g.length ≤ 30) (hm : m ≤ 16) : (pvL g m).length ≤ 4000 := by
  unfold pvL
  split
  · simp; omega
  · have h1 := lows_len m ((ssI g).getD 0 0)
    have h2 := flat_len (f := blockL (ssI g) m) (c := m + 1) (fun i => block_len _ _ _) (ssI g).length
    have h3 : (ssI g).length * (m + 1) ≤ 30 * 17 := Nat.mul_le_mul (Nat.le_trans (ssI_len g) hg) (by omega)
    rw [List.length_append]
    omega
theorem pv_asc {g : List Int} {m : Nat} : (pvL g m).Pairwise (· < ·) := by
  by_cases h : ssI g = []
  · unfold pvL
    rw [if_pos h]
    exact map_up fun a b hab => by omega
  · exact pv_up h
theorem cnt_gap {g : List Int} {a b : Int} (h : cntL g a = cntL g b) (hab : a ≤ b) : ∀ n ∈ g, ¬ (a ≤ n ∧ n < b) := by
  intro n hn ⟨h1, h2⟩
  have := flt_lt (l := g) (p := fun y => decide (y < a)) (q := fun y => decide (y < b)) (fun z _ hz => by rw [decide_eq_true_eq] at hz ⊢; omega) hn (by rw [decide_eq_true_eq]; exact h2) (decide_eq_false (by omega))
  unfold cntL at h
  omega
theorem cnt_same {g : List Int} {a b : Int} (h : ∀ n ∈ g, n < a ↔ n < b) : cntL g a = cntL g b := by
  unfold cntL
  congr 2
  exact List.filter_congr fun n hn => by
    have := h n hn
    exact decide_eq_decide.mpr this
theorem same_iff {g : List Int} {x y : Int} : sameB g x y = true ↔ cntL g x = cntL g y ∧ (x ∈ g ↔ y ∈ g) := by
  unfold sameB
  rw [Bool.and_eq_true, decide_eq_true_eq, decide_eq_true_eq, decide_eq_decide]
theorem pv_fit {g : List Int} {m : Nat} (hm : m ≤ 16) (hF : ∀ x ∈ g, In1 x) (x : Int) : (fitL g (pvL g m) x).length ≤ 20 := by
  have asc : (fitL g (pvL g m) x).Pairwise (· < ·) := pv_asc.filter _
  have mem : ∀ y ∈ fitL g (pvL g m) x, y ∈ pvL g m ∧ sameB g y x = true := fun y hy => List.mem_filter.mp hy
  generalize fitL g (pvL g m) x = L at *
  cases L with
  | nil => simp
  | cons y0 L =>
    refine Nat.le_trans (span (c := y0) (n := m + 1) asc fun y hy => ?_) (by omega)
    have h0 := mem y0 List.mem_cons_self
    have h1 := mem y hy
    rcases List.mem_cons.mp hy with rfl | hy
    · omega
    · have lt : y0 < y := (List.pairwise_cons.mp asc).1 y hy
      refine ⟨by omega, ?_⟩
      obtain ⟨a1, a2⟩ := same_iff.mp h0.2
      obtain ⟨b1, b2⟩ := same_iff.mp h1.2
      by_cases hg : g = []
      · subst hg
        have e : pvL [] m = (List.range m).map fun i : Nat => (i : Int) := rfl
        rw [e] at h0 h1
        obtain ⟨i, hi, rfl⟩ := List.mem_map.mp h0.1
        obtain ⟨j, hj, rfl⟩ := List.mem_map.mp h1.1
        have := List.mem_range.mp hi
        have := List.mem_range.mp hj
        omega
      · have gap := cnt_gap (a1.trans b1.symm) (Int.le_of_lt lt)
        have q0 := (mem_pv hg hF).mp h0.1
        have q1 := (mem_pv hg hF).mp h1.1
        have ny : y ∉ g := fun hy => by
          have : y0 ∈ g := a2.mpr (b2.mp hy)
          exact gap y0 this ⟨Int.le_refl _, lt⟩
        rcases q1.2 with q1 | ⟨n, hn, n1, n2⟩
        · rcases q0.2 with q0 | ⟨n, hn, n1, n2⟩
          · omega
          · have := least_le hn
            omega
        · have := gap n hn
          have : n ≠ y := fun e => ny (e ▸ hn)
          omega
end K60
end
section
set_option Elab.async false
set_option linter.all false
set_option maxRecDepth 100000
set_option maxHeartbeats 4000000
namespace K60
open PySem L2 PV
local macro_rules | `(tactic| walk_at "w") => `(tactic| (conv => whnf))
theorem fits_of {g a s : List Int} (f : Int → Int) (hm : ∀ x ∈ s, f x ∈ a ∧ sameB g (f x) x = true) (ho : ∀ x ∈ s, ∀ y ∈ s, x < y → f x < f y) : Fits g a s (s.map f) := by
  have get : ∀ i, i < s.length → (s.map f).getD i 0 = f (s.getD i 0) ∧ s.getD i 0 ∈ s := fun i hi => by
    rw [show s.getD i 0 = s[i] by simp [List.getD, hi]]
    exact ⟨by simp [List.getD, hi], List.getElem_mem hi⟩
  refine ⟨by simp, fun j hj => ?_, fun i j hij hj => ?_⟩
  · obtain ⟨e, h⟩ := get j hj
    rw [e]
    exact hm _ h
  · obtain ⟨e1, h1⟩ := get i (by omega)
    obtain ⟨e2, h2⟩ := get j hj
    rw [e1, e2]
    generalize s.getD i 0 = x at *
    generalize s.getD j 0 = y at *
    unfold sgn
    rcases Int.lt_trichotomy x y with h | h | h
    · have := ho x h1 y h2 h
      rw [decide_eq_false (p := f y < f x) (by omega), decide_eq_false (p := y < x) (by omega), decide_eq_true (p := f x < f y) this, decide_eq_true (p := x < y) h]
    · subst h
      rw [decide_eq_false (p := f x < f x) (by omega), decide_eq_false (p := x < x) (by omega)]
    · have := ho y h2 x h1 h
      rw [decide_eq_true (p := f y < f x) this, decide_eq_true (p := y < x) h, decide_eq_false (p := f x < f y) (by omega), decide_eq_false (p := x < y) (by omega)]
def c0 (s : List Int) (x : Int) : Nat := ((ssI s).filter fun z => decide (z < x)).length
theorem ord_nil {m : Nat} {s : List Int} (hs : s.length ≤ m) : ∃ φ, Fits [] (pvL [] m) s φ := by
  refine ⟨_, fits_of (fun x => (c0 s x : Int)) (fun x hx => ⟨?_, rfl⟩) fun x hx y hy h => ?_⟩
  · have e : pvL [] m = (List.range m).map fun i : Nat => (i : Int) := rfl
    rw [e]
    refine List.mem_map.mpr ⟨c0 s x, List.mem_range.mpr ?_, rfl⟩
    have h1 := flt_lt (l := ssI s) (p := fun z => decide (z < x)) (q := fun _ => true) (fun _ _ _ => rfl) (mem_ssI.mpr hx) rfl (decide_eq_false (by omega))
    rw [List.filter_eq_self.mpr fun _ _ => rfl] at h1
    have h2 := ssI_len s
    unfold c0
    omega
  · have := flt_lt (l := ssI s) (p := fun z => decide (z < x)) (q := fun z => decide (z < y)) (fun z _ hz => by rw [decide_eq_true_eq] at hz ⊢; omega) (mem_ssI.mpr hx) (decide_eq_true h) (decide_eq_false (by omega))
    unfold c0
    show ((_ : Nat) : Int) < ((_ : Nat) : Int)
    omega
def pred (g : List Int) (x : Int) : Int := mostI (g.filter fun n => decide (n < x))
def phi (g s : List Int) (x : Int) : Int := if x ∈ g then x else if x < leastI g then leastI g - 1 - (cn s x (leastI g) : Int) else pred g x + 1 + (cn s (pred g x) x : Int)
theorem pred_ok {g : List Int} {x : Int} (h0 : g ≠ []) (h : ¬ x < leastI g) (hx : x ∉ g) : pred g x ∈ g ∧ pred g x < x ∧ ∀ n ∈ g, n < x → n ≤ pred g x := by
  have hl := least_mem h0
  have hne : leastI g ≠ x := fun e => hx (e ▸ hl)
  have hf : leastI g ∈ g.filter fun n => decide (n < x) := List.mem_filter.mpr ⟨hl, decide_eq_true (by omega)⟩
  have h1 := most_mem (List.ne_nil_of_mem hf)
  obtain ⟨a, b⟩ := List.mem_filter.mp h1
  exact ⟨a, of_decide_eq_true b, fun n hn hlt => le_most (List.mem_filter.mpr ⟨hn, decide_eq_true hlt⟩)⟩
/-- where the chosen number stands -/
theorem phi_low {g s : List Int} {x : Int} (h : x < leastI g) (hx : x ∉ g) : phi g s x = leastI g - 1 - (cn s x (leastI g) : Int) ∧ x ≤ phi g s x ∧ phi g s x < leastI g := by
  have e : phi g s x = leastI g - 1 - (cn s x (leastI g) : Int) := by unfold phi; rw [if_neg hx, if_pos h]
  have := cn_span (s := s) h
  exact ⟨e, by omega, by omega⟩
theorem phi_high {g s : List Int} {x : Int} (h0 : g ≠ []) (h : ¬ x < leastI g) (hx : x ∉ g) : phi g s x = pred g x + 1 + (cn s (pred g x) x : Int) ∧ pred g x < phi g s x ∧ phi g s x ≤ x := by
  have e : phi g s x = pred g x + 1 + (cn s (pred g x) x : Int) := by unfold phi; rw [if_neg hx, if_neg h]
  have := cn_span (s := s) (pred_ok h0 h hx).2.1
  exact ⟨e, by omega, by omega⟩
theorem phi_in {g s : List Int} {x : Int} (hx : x ∈ g) : phi g s x = x := by unfold phi; rw [if_pos hx]
theorem phi_mem {g s : List Int} {m : Nat} (h0 : g ≠ []) (hF : ∀ x ∈ g, In1 x) (hs : s.length ≤ m) (hsF : ∀ x ∈ s, In1 x) : ∀ x ∈ s, phi g s x ∈ pvL g m ∧ sameB g (phi g s x) x = true := by
  intro x hx
  rw [mem_pv h0 hF]
  have hxF := hsF x hx
  have hl := hF _ (least_mem h0)
  unfold In1 at hxF hl
  unfold Mem
  by_cases c1 : x ∈ g
  · rw [phi_in c1]
    exact ⟨⟨hxF, .inr ⟨x, c1, Int.le_refl _, by omega⟩⟩, same_iff.mpr ⟨rfl, Iff.rfl⟩⟩
  · by_cases c2 : x < leastI g
    · obtain ⟨e, e1, e2⟩ := phi_low (s := s) c2 c1
      have few := cn_few (a := x) (b := leastI g) hx (by omega)
      refine ⟨⟨⟨by omega, by omega⟩, .inl ⟨by omega, e2⟩⟩, same_iff.mpr ⟨cnt_same fun n hn => ?_, ⟨fun h => ?_, fun h => absurd h c1⟩⟩⟩
      · have := least_le hn
        omega
      · have := least_le h
        omega
    · obtain ⟨e, e1, e2⟩ := phi_high (s := s) h0 c2 c1
      obtain ⟨p1, p2, p3⟩ := pred_ok h0 c2 c1
      have few := cn_few (a := pred g x) (b := x) hx (by omega)
      have hp := hF _ p1
      unfold In1 at hp
      refine ⟨⟨⟨by omega, by omega⟩, .inr ⟨_, p1, by omega, by omega⟩⟩, same_iff.mpr ⟨cnt_same fun n hn => ⟨fun h => by omega, fun h => by have := p3 n hn h; omega⟩, ⟨fun h => ?_, fun h => absurd h c1⟩⟩⟩
      by_cases c3 : phi g s x = x
      · rw [← c3]; exact h
      · have := p3 _ h (by omega)
        omega
theorem phi_up {g s : List Int} (h0 : g ≠ []) : ∀ x ∈ s, ∀ y ∈ s, x < y → phi g s x < phi g s y := by
  intro x hx y hy h
  by_cases cy : y < leastI g
  · have nx : x ∉ g := fun h => by have := least_le h; omega
    have ny : y ∉ g := fun h => by have := least_le h; omega
    obtain ⟨e, _, _⟩ := phi_low (s := s) (by omega : x < leastI g) nx
    obtain ⟨e', _, _⟩ := phi_low (s := s) cy ny
    have := cn_lt (s := s) (a := y) (b := leastI g) (a' := x) (b' := leastI g) (z := y) (by omega) (Int.le_refl _) hy (by omega) (by omega)
    omega
  · have low : leastI g ≤ phi g s y := by
      by_cases c : y ∈ g
      · rw [phi_in c]; exact least_le c
      · have := (phi_high (s := s) h0 cy c).2.1
        have := least_le (pred_ok h0 cy c).1
        omega
    by_cases cx : x < leastI g
    · have nx : x ∉ g := fun h => by have := least_le h; omega
      have := (phi_low (s := s) cx nx).2.2
      omega
    · by_cases c1 : x ∈ g
      · rw [phi_in c1]
        by_cases c2 : y ∈ g
        · rw [phi_in c2]; exact h
        · have := (pred_ok h0 cy c2).2.2 x c1 h
          have := (phi_high (s := s) h0 cy c2).2.1
          omega
      · obtain ⟨e, e1, e2⟩ := phi_high (s := s) h0 cx c1
        obtain ⟨p1, p2, p3⟩ := pred_ok h0 cx c1
        by_cases c2 : y ∈ g
        · rw [phi_in c2]; omega
        · obtain ⟨e', e1', e2'⟩ := phi_high (s := s) h0 cy c2
          obtain ⟨q1, q2, q3⟩ := pred_ok h0 cy c2
          have le := q3 _ p1 (by omega)
          by_cases c3 : pred g y < x
          · have := p3 _ q1 c3
            have ee : pred g y = pred g x := by omega
            rw [ee] at e'
            have := cn_lt (s := s) (a := pred g x) (b := x) (a' := pred g x) (b' := y) (z := x) (Int.le_refl _) (by omega) hx (by omega) (by omega)
            omega
          · have : pred g y ≠ x := fun e => c1 (e ▸ q1)
            omega
theorem plain {g : List Int} {m : Nat} (hg : g.length ≤ 30) (hm : m ≤ 16) (hF : ∀ x ∈ g, In1 x) : Plain g m where
  own := pv_own hF
  fit := pv_fit hm hF
  few := pv_few hg hm
  ord := fun s hl hs => by
    have hl2 : s.length ≤ m := by rw [hl]; exact Nat.min_le_left _ _
    by_cases h : g = []
    · subst h
      exact ord_nil hl2
    · exact ⟨_, fits_of (phi g s) (phi_mem h hF hl2 hs) (phi_up h)⟩
theorem law_true : ∀ ns : List Int, ns.length ≤ 63 → m_law [.fz (.list (ns.map PyData.int))] fun ev _ => ev = .val (.bool true) :=
  law_of fun _ _ hg hm hF => plain hg hm hF
end K60
end
section
set_option Elab.async false
set_option linter.all false
set_option maxRecDepth 100000
set_option maxHeartbeats 4000000
namespace K60
open PySem L2 PV
def topS (i : Nat) : Stmt := PySem.Challenge.pw_standingasks_k60_probe_values.main.body.getD i (.Pass ⟨0, 0, 0, 0⟩)
abbrev s_probe_values : Stmt := topS 2
abbrev N_probe_values : List Str := ["given", "many", "known", "found", "number", "at", "last", "step"]
theorem sc_probe_values : FnScope N_probe_values ["given", "many"] (defScope s_probe_values) := ⟨rfl, rfl, rfl, by decide +kernel, rfl, by decide +kernel, by decide +kernel⟩
theorem ok_probe_values {P : Program} {w : World} {K : PySem.W.Frag} {mg : Str → Option Value} {base : Heap} (mz_sorted : mg "sorted" = none) (mz_set : mg "set" = none) (mz_len : mg "len" = none) (mz_range : mg "range" = none) (mz_tuple : mg "tuple" = none) (mz_enumerate : mg "enumerate" = none) {t_FAR : Tok} (mc_FAR : mg "FAR" = some (.int 1000000000000 t_FAR)) {fa : Addr} {fd : FuncData} (F : Fun K "probe_values" "probe_values" s_probe_values fa fd) :
    FnOk P w K mg base CX0 1 fa fd ["given", "many"] (spD K 2 m_probe_values) := by
  unfold m_probe_values
  exact def_ok (N := N_probe_values) (m := 6) (k := 0) (bs := [true, true]) F sc_probe_values rfl rfl fun cdv A outer s H E hr =>
    (pvb_cons (aSet (i := 2) sc_probe_values.nd (pve_sortset rfl rfl mz_sorted rfl mz_set (pva_cons (pve_var 0 (pv 0)) pva_nil)))
    (pvb_cons (pvs_if (pvt_cmp (opv_eq (un_of hr)) (pve_bi (cv_len) rfl mz_len (by decide +kernel) (pva_cons (pve_var 2 (pv 2)) pva_nil)) pve_int (nomark _)) (pvb_one (pvs_ret (pn := [0, 1]) (pve_tupRg rfl rfl mz_tuple (pvr_1 rfl mz_range (pve_var 1 (pv 1)))))) pvb_nil)
    (pvb_cons (pvs_setLc (pn := []) (own := [("number", 4)]) (sl := [4]) (i := 3) rfl sc_probe_values.nd rfl rfl (sw_true rfl rfl rfl (by decide +kernel)) (by decide) (pvi_range2 rfl mz_range (pva_cons (pve_op opv_sub (pve_ix (pve_var 2 (pv 2)) pve_int) (pve_var 1 (pv 1))) (pva_cons (pve_ix (pve_var 2 (pv 2)) pve_int) pva_nil))) (blk_by N_probe_values (defScope s_probe_values) (by decide +kernel)) (by decide) (fun _ _ _ _ _ => aName (sl := [4]) sc_probe_values.nd) (fun _ _ _ _ _ => pvts_one (pvt_cmp (opv_ge) (pve_var 4 (pv 4)) (pve_neg (pve_glob rfl mc_FAR)) (nomark _))) (fun _ _ _ _ _ => (pve_var 4 (pv 4))))
    (pvb_cons (pvs_for (pn' := [0, 1]) (sl := [5, 4]) rfl PassesOwn.never (pvi_enum rfl mz_enumerate (pva_cons (pve_var 2 (pv 2)) pva_nil)) (pvg_tup rfl (pvgs_cons (aName (sl := [5, 4]) sc_probe_values.nd) (pvgs_cons (aName (sl := [5, 4]) sc_probe_values.nd) pvgs_nil))) (pvb_cons (aSet (i := 6) sc_probe_values.nd (pve_if (pvt_cmp (opv_lt) (pve_op opv_add (pve_var 5 (pv 5)) pve_int) (pve_bi (cv_len) rfl mz_len (by decide +kernel) (pva_cons (pve_var 2 (pv 2)) pva_nil)) (nomark _)) (pve_op opv_sub (pve_ix (pve_var 2 (pv 2)) (pve_op opv_add (pve_var 5 (pv 5)) pve_int)) pve_int) (pve_glob rfl mc_FAR)))
    (pvb_cons (pvs_expr (pve_mut (i := 3) PySem.F.slot_list_append PySem.F.type_list_append mv_app (pv 3) (pva_cons (pve_var 4 (pv 4)) pva_nil)))
    (pvb_one (pvs_for (pn' := [0, 1]) (sl := [7]) rfl PassesOwn.never (pvi_range2 rfl mz_range (pva_cons pve_int (pva_cons (pve_op opv_add (pve_var 1 (pv 1)) pve_int) pva_nil))) (aName (sl := [7]) sc_probe_values.nd) (pvb_one (pvs_if (pvt_cmp (opv_le) (pve_op opv_add (pve_var 4 (pv 4)) (pve_var 7 (pv 7))) (pve_var 6 (pv 6)) (nomark _)) (pvb_one (pvs_expr (pve_mut (i := 3) PySem.F.slot_list_append PySem.F.type_list_append mv_app (pv 3) (pva_cons (pve_op opv_add (pve_var 4 (pv 4)) (pve_var 7 (pv 7))) pva_nil)))) pvb_nil)) (by decide) (by decide))))) (by decide) (by decide))
    (pvb_one (pvs_ret (pn := [0, 1]) (pve_ty (cv_tuple) rfl mz_tuple (by decide +kernel) (pva_cons (pve_var 3 (pv 3)) pva_nil))))))))
abbrev s_L_begin : Stmt := topS 4
abbrev N_L_begin : List Str := ["script", "cell"]
theorem sc_L_begin : FnScope N_L_begin ["script"] (defScope s_L_begin) := ⟨rfl, rfl, rfl, by decide +kernel, rfl, by decide +kernel, by decide +kernel⟩
theorem ok_L_begin {P : Program} {w : World} {K : PySem.W.Frag} {mg : Str → Option Value} {base : Heap} (mz_int : mg "int" = none) {fa : Addr} {fd : FuncData} (F : Fun K "_law_begin" "_law_begin" s_L_begin fa fd) :
    FnOk P w K mg base CX0 1 fa fd ["script"] (spD K 1 m_L_begin) := by
  unfold m_L_begin
  exact def_ok (N := N_L_begin) (m := 1) (k := 0) (bs := [true]) F sc_L_begin rfl rfl fun cdv A outer s H E hr =>
    (pvb_one (pvs_ret (pn := [0]) (pve_lst (pva_cons (pve_lc (pn := []) (own := [("cell", 1)]) (sl := [1]) rfl sc_L_begin.nd (pvi_fz (pve_sl (pve_var 0 (pv 0)) pvo_none (pvo_some pve_int))) (blk_by N_L_begin (defScope s_L_begin) (by decide +kernel)) (by decide) (fun _ _ _ _ _ => aName (sl := [1]) sc_L_begin.nd) (fun _ _ _ _ _ => pvts_nil) (fun _ _ _ _ _ => (pve_ty (cv_int) rfl mz_int (by decide +kernel) (pva_cons (pve_var 1 (pv 1)) pva_nil)))) (pva_cons pve_int (pva_cons pve_int (pva_cons pve_int pva_nil)))))))
abbrev s_L_draw : Stmt := topS 5
abbrev N_L_draw : List Str := ["d", "many", "found", "cell", "size"]
theorem sc_L_draw : FnScope N_L_draw ["d", "many"] (defScope s_L_draw) := ⟨rfl, rfl, rfl, by decide +kernel, rfl, by decide +kernel, by decide +kernel⟩
theorem ok_L_draw {P : Program} {w : World} {K : PySem.W.Frag} {mg : Str → Option Value} {base : Heap} (mz_int : mg "int" = none) (mz_len : mg "len" = none) (mz_abs : mg "abs" = none) {fa : Addr} {fd : FuncData} (F : Fun K "_law_draw" "_law_draw" s_L_draw fa fd) :
    FnOk P w K mg base CX0 1 fa fd ["d", "many"] (spD K 2 m_L_draw) := by
  unfold m_L_draw
  exact def_ok (N := N_L_draw) (m := 3) (k := 0) (bs := [true, true]) F sc_L_draw rfl rfl fun cdv A outer s H E hr =>
    (pvb_cons (pvs_if (pvt_cmp (opv_gt) (pve_ix (pve_var 0 (pv 0)) pve_int) pve_int (nomark _)) (pvb_cons (aSet (i := 2) sc_L_draw.nd (pve_ix (pve_var 0 (pv 0)) pve_int))
    (pvb_cons (pvs_setIx (i := 0) (pve_op opv_div (pve_var 2 (pv 2)) (pve_var 1 (pv 1))) pve_int (pv 0))
    (pvb_one (pvs_ret (pn := [0, 1]) (pve_op opv_mod (pve_ty (cv_int) rfl mz_int (by decide +kernel) (pva_cons (pve_var 2 (pv 2)) pva_nil)) (pve_var 1 (pv 1))))))) pvb_nil)
    (pvb_cons (aSet (i := 3) sc_L_draw.nd (pve_if (pvt_cmp (opv_lt) (pve_ix (pve_var 0 (pv 0)) pve_int) (pve_bi (cv_len) rfl mz_len (by decide +kernel) (pva_cons (pve_ix (pve_var 0 (pv 0)) pve_int) pva_nil)) (nomark _)) (pve_ix (pve_ix (pve_var 0 (pv 0)) pve_int) (pve_ix (pve_var 0 (pv 0)) pve_int)) pve_int))
    (pvb_cons (aSet (i := 4) sc_L_draw.nd (pve_op opv_add (pve_op opv_mul pve_int (pve_bi (cv_abs) rfl mz_abs (by decide +kernel) (pva_cons (pve_var 3 (pv 3)) pva_nil))) (pve_ty (cv_int) rfl mz_int (by decide +kernel) (pva_cons (pve_cmp (opv_lt) (pve_var 3 (pv 3)) pve_int (nomark _)) pva_nil))))
    (pvb_cons (pvs_augIx (i := 0) iopv_add pve_int pve_int (pv 0))
    (pvb_cons (pvs_if (pvt_cmp (opv_ge) (pve_var 4 (pv 4)) (pve_op opv_mul pve_int (pve_op opv_pow pve_int pve_int)) (nomark _)) (pvb_cons (aSet (i := 2) sc_L_draw.nd (pve_op opv_mod (pve_ty (cv_int) rfl mz_int (by decide +kernel) (pva_cons (pve_op opv_div (pve_var 4 (pv 4)) pve_int) pva_nil)) (pve_op opv_shl pve_int pve_int)))
    (pvb_cons (pvs_setIx (i := 0) (pve_op opv_div (pve_var 2 (pv 2)) (pve_var 1 (pv 1))) pve_int (pv 0))
    (pvb_one (pvs_ret (pn := [0, 1]) (pve_op opv_mod (pve_ty (cv_int) rfl mz_int (by decide +kernel) (pva_cons (pve_var 2 (pv 2)) pva_nil)) (pve_var 1 (pv 1))))))) pvb_nil)
    (pvb_cons (pvs_setIx (i := 0) (pve_op opv_mod (pve_ty (cv_int) rfl mz_int (by decide +kernel) (pva_cons (pve_op opv_add (pve_op opv_add (pve_op opv_add (pve_op opv_mul (pve_ix (pve_var 0 (pv 0)) pve_int) pve_int) (pve_op opv_mul (pve_op opv_mod (pve_ty (cv_int) rfl mz_int (by decide +kernel) (pva_cons (pve_var 4 (pv 4)) pva_nil)) pve_int) pve_int)) (pve_op opv_mul (pve_ix (pve_var 0 (pv 0)) pve_int) pve_int)) pve_int) pva_nil)) pve_int) pve_int (pv 0))
    (pvb_one (pvs_ret (pn := [0, 1]) (pve_op opv_mod (pve_ty (cv_int) rfl mz_int (by decide +kernel) (pva_cons (pve_op opv_div (pve_ix (pve_var 0 (pv 0)) pve_int) pve_int) pva_nil)) (pve_var 1 (pv 1)))))))))))
abbrev s_L_pick : Stmt := topS 6
abbrev N_L_pick : List Str := ["d", "row"]
theorem sc_L_pick : FnScope N_L_pick ["d", "row"] (defScope s_L_pick) := ⟨rfl, rfl, rfl, by decide +kernel, rfl, by decide +kernel, by decide +kernel⟩
theorem ok_L_pick {P : Program} {w : World} {K : PySem.W.Frag} {mg : Str → Option Value} {base : Heap} (C_L_draw : Callee P w K mg base 1 "_law_draw" 2 m_L_draw) (mz_len : mg "len" = none) {fa : Addr} {fd : FuncData} (F : Fun K "_law_pick" "_law_pick" s_L_pick fa fd) :
    FnOk P w K mg base CX0 2 fa fd ["d", "row"] (spD K 2 m_L_pick) := by
  unfold m_L_pick
  exact def_ok (N := N_L_pick) (m := 0) (k := 1) (bs := [true, true]) F sc_L_pick rfl rfl fun cdv A outer s H E hr =>
    (pvb_one (pvs_ret (pn := [0, 1]) (pve_ix (pve_var 1 (pv 1)) (pve_call (bs := [true, false]) C_L_draw (hr.mono (by decide)) rfl pass0 (pva_cons (pve_var 0 (pv 0)) (pva_cons (pve_bi (cv_len) rfl mz_len (by decide +kernel) (pva_cons (pve_var 1 (pv 1)) pva_nil)) pva_nil))))))
abbrev s_L_is_int : Stmt := topS 7
abbrev N_L_is_int : List Str := ["thing"]
theorem sc_L_is_int : FnScope N_L_is_int ["thing"] (defScope s_L_is_int) := ⟨rfl, rfl, rfl, by decide +kernel, rfl, by decide +kernel, by decide +kernel⟩
theorem ok_L_is_int {P : Program} {w : World} {K : PySem.W.Frag} {mg : Str → Option Value} {base : Heap} (mz_isinstance : mg "isinstance" = none) (mz_int : mg "int" = none) (mz_bool : mg "bool" = none) {fa : Addr} {fd : FuncData} (F : Fun K "_law_is_int" "_law_is_int" s_L_is_int fa fd) :
    FnOk P w K mg base CX0 1 fa fd ["thing"] (spD K 1 m_L_is_int) := by
  unfold m_L_is_int
  exact def_ok (N := N_L_is_int) (m := 0) (k := 0) (bs := [true]) F sc_L_is_int rfl rfl fun cdv A outer s H E hr =>
    (pvb_one (pvs_ret (pn := [0]) (pve_and (pve_isi rfl mz_isinstance (pve_var 0 (pv 0)) (pe_bltn rfl mz_int (by decide +kernel) rfl) (by decide +kernel)) (pve_one (pve_not (pve_isi rfl mz_isinstance (pve_var 0 (pv 0)) (pe_bltn rfl mz_bool (by decide +kernel) rfl) (by decide +kernel)))))))
abbrev s_L_is_ints : Stmt := topS 8
abbrev N_L_is_ints : List Str := ["thing", "part"]
theorem sc_L_is_ints : FnScope N_L_is_ints ["thing"] (defScope s_L_is_ints) := ⟨rfl, rfl, rfl, by decide +kernel, rfl, by decide +kernel, by decide +kernel⟩
theorem ok_L_is_ints {P : Program} {w : World} {K : PySem.W.Frag} {mg : Str → Option Value} {base : Heap} (C_L_is_int : Callee P w K mg base 1 "_law_is_int" 1 m_L_is_int) (mz_isinstance : mg "isinstance" = none) (mz_tuple : mg "tuple" = none) (mz_all : mg "all" = none) {fa : Addr} {fd : FuncData} (F : Fun K "_law_is_ints" "_law_is_ints" s_L_is_ints fa fd) :
    FnOk P w K mg base CX0 2 fa fd ["thing"] (spD K 1 m_L_is_ints) := by
  unfold m_L_is_ints
  exact def_ok (N := N_L_is_ints) (m := 1) (k := 1) (bs := [true]) F sc_L_is_ints rfl rfl fun cdv A outer s H E hr =>
    (pvb_one (pvs_ret (pn := [0]) (pve_and (pve_isi rfl mz_isinstance (pve_var 0 (pv 0)) (pe_bltn rfl mz_tuple (by decide +kernel) rfl) (by decide +kernel)) (pve_one (pve_bi (cv_all rfl) rfl mz_all (by decide +kernel) (pva_cons (pve_lc (pn := [0]) (own := [("part", 1)]) (sl := [1]) rfl sc_L_is_ints.nd (pvi_slot (pv 0) (by decide)) (blk_by N_L_is_ints (defScope s_L_is_ints) (by decide +kernel)) (by decide) (fun _ _ _ _ _ => aName (sl := [1]) sc_L_is_ints.nd) (fun _ _ _ _ _ => pvts_nil) (fun _ _ _ _ _ => (pve_call (bs := [true]) C_L_is_int (hr.mono (by decide)) rfl pass0 (pva_cons (pve_var 1 (pv 1)) pva_nil)))) pva_nil))))))
abbrev s_L_far : Stmt := topS 9
abbrev N_L_far : List Str := ["d"]
theorem sc_L_far : FnScope N_L_far ["d"] (defScope s_L_far) := ⟨rfl, rfl, rfl, by decide +kernel, rfl, by decide +kernel, by decide +kernel⟩
theorem ok_L_far {P : Program} {w : World} {K : PySem.W.Frag} {mg : Str → Option Value} {base : Heap} (C_L_draw : Callee P w K mg base 1 "_law_draw" 2 m_L_draw) {fa : Addr} {fd : FuncData} (F : Fun K "_law_far" "_law_far" s_L_far fa fd) :
    FnOk P w K mg base CX0 2 fa fd ["d"] (spD K 1 m_L_far) := by
  unfold m_L_far
  exact def_ok (N := N_L_far) (m := 0) (k := 1) (bs := [true]) F sc_L_far rfl rfl fun cdv A outer s H E hr =>
    (pvb_one (pvs_ret (pn := [0]) (pve_op opv_mul (pve_op opv_add (pve_op opv_mul (pve_call (bs := [true, false]) C_L_draw (hr.mono (by decide)) rfl pass0 (pva_cons (pve_var 0 (pv 0)) (pva_cons (pve_op opv_pow pve_int pve_int) pva_nil))) (pve_op opv_pow pve_int pve_int)) (pve_call (bs := [true, false]) C_L_draw (hr.mono (by decide)) rfl pass0 (pva_cons (pve_var 0 (pv 0)) (pva_cons (pve_op opv_pow pve_int pve_int) pva_nil)))) (pve_op opv_sub pve_int (pve_op opv_mul pve_int (pve_call (bs := [true, false]) C_L_draw (hr.mono (by decide)) rfl pass0 (pva_cons (pve_var 0 (pv 0)) (pva_cons pve_int pva_nil))))))))
abbrev s_L_within : Stmt := topS 10
abbrev N_L_within : List Str := ["number"]
theorem sc_L_within : FnScope N_L_within ["number"] (defScope s_L_within) := ⟨rfl, rfl, rfl, by decide +kernel, rfl, by decide +kernel, by decide +kernel⟩
theorem ok_L_within {P : Program} {w : World} {K : PySem.W.Frag} {mg : Str → Option Value} {base : Heap} (mz_min : mg "min" = none) (mz_max : mg "max" = none) {fa : Addr} {fd : FuncData} (F : Fun K "_law_within" "_law_within" s_L_within fa fd) :
    FnOk P w K mg base CX0 1 fa fd ["number"] (spD K 1 m_L_within) := by
  unfold m_L_within
  exact def_ok (N := N_L_within) (m := 0) (k := 0) (bs := [true]) F sc_L_within rfl rfl fun cdv A outer s H E hr =>
    (pvb_one (pvs_ret (pn := [0]) (pve_bi (cv_max rfl) rfl mz_max (by decide +kernel) (pva_cons (pve_neg (pve_op opv_pow pve_int pve_int)) (pva_cons (pve_bi (cv_min2 rfl) rfl mz_min (by decide +kernel) (pva_cons (pve_op opv_pow pve_int pve_int) (pva_cons (pve_var 0 (pv 0)) pva_nil))) pva_nil)))))
abbrev s_L_given : Stmt := topS 11
abbrev N_L_given : List Str := ["d", "found", "k", "way"]
theorem sc_L_given : FnScope N_L_given ["d"] (defScope s_L_given) := ⟨rfl, rfl, rfl, by decide +kernel, rfl, by decide +kernel, by decide +kernel⟩
theorem ok_L_given {P : Program} {w : World} {K : PySem.W.Frag} {mg : Str → Option Value} {base : Heap} (C_L_draw : Callee P w K mg base 1 "_law_draw" 2 m_L_draw) (C_L_within : Callee P w K mg base 1 "_law_within" 1 m_L_within) (C_L_pick : Callee P w K mg base 2 "_law_pick" 2 m_L_pick) (C_L_far : Callee P w K mg base 2 "_law_far" 1 m_L_far) (mz_range : mg "range" = none) (mz_len : mg "len" = none) (mz_tuple : mg "tuple" = none) {fa : Addr} {fd : FuncData} (F : Fun K "_law_given" "_law_given" s_L_given fa fd) :
    FnOk P w K mg base CX0 3 fa fd ["d"] (spD K 1 m_L_given) := by
  unfold m_L_given
  exact def_ok (N := N_L_given) (m := 3) (k := 2) (bs := [true]) F sc_L_given rfl rfl fun cdv A outer s H E hr =>
    (pvb_cons (aSet (i := 1) sc_L_given.nd (pve_lst pva_nil))
    (pvb_cons (pvs_for (pn' := [0]) (sl := [2]) rfl PassesOwn.never (pvi_range1 rfl mz_range (pva_cons (pve_if (pvt_cmp (opv_eq (un_of hr)) (pve_call (bs := [true, false]) C_L_draw (hr.mono (by decide)) rfl pass0 (pva_cons (pve_var 0 (pv 0)) (pva_cons pve_int pva_nil))) pve_int (nomark _)) pve_int (pve_call (bs := [true, false]) C_L_draw (hr.mono (by decide)) rfl pass0 (pva_cons (pve_var 0 (pv 0)) (pva_cons pve_int pva_nil)))) pva_nil)) (aName (sl := [2]) sc_L_given.nd) (pvb_cons (aSet (i := 3) sc_L_given.nd (pve_call (bs := [true, false]) C_L_draw (hr.mono (by decide)) rfl pass0 (pva_cons (pve_var 0 (pv 0)) (pva_cons pve_int pva_nil))))
    (pvb_one (pvs_if (pvt_cmp (opv_lt) (pve_var 3 (pv 3)) pve_int (nomark _)) (pvb_one (pvs_expr (pve_mut (i := 1) PySem.F.slot_list_append PySem.F.type_list_append mv_app (pv 1) (pva_cons (pve_op opv_sub (pve_call (bs := [true, false]) C_L_draw (hr.mono (by decide)) rfl pass0 (pva_cons (pve_var 0 (pv 0)) (pva_cons pve_int pva_nil))) pve_int) pva_nil)))) (pvb_one (pvs_if (pvt_cmp (opv_eq (un_of hr)) (pve_var 3 (pv 3)) pve_int (nomark _)) (pvb_one (pvs_expr (pve_mut (i := 1) PySem.F.slot_list_append PySem.F.type_list_append mv_app (pv 1) (pva_cons (pve_op opv_sub (pve_op opv_pow pve_int pve_int) (pve_call (bs := [true, false]) C_L_draw (hr.mono (by decide)) rfl pass0 (pva_cons (pve_var 0 (pv 0)) (pva_cons pve_int pva_nil)))) pva_nil)))) (pvb_one (pvs_if (pvt_cmp (opv_eq (un_of hr)) (pve_var 3 (pv 3)) pve_int (nomark _)) (pvb_one (pvs_expr (pve_mut (i := 1) PySem.F.slot_list_append PySem.F.type_list_append mv_app (pv 1) (pva_cons (pve_op opv_sub (pve_call (bs := [true, false]) C_L_draw (hr.mono (by decide)) rfl pass0 (pva_cons (pve_var 0 (pv 0)) (pva_cons pve_int pva_nil))) (pve_op opv_pow pve_int pve_int)) pva_nil)))) (pvb_one (pvs_if (PVW.t (pvw_and (pvt_cmp (opv_lt) (pve_var 3 (pv 3)) pve_int (nomark _)) (pvw_and1 (pvt_cmp (opv_gt) (pve_bi (cv_len) rfl mz_len (by decide +kernel) (pva_cons (pve_var 1 (pv 1)) pva_nil)) pve_int (nomark _))))) (pvb_one (pvs_expr (pve_mut (i := 1) PySem.F.slot_list_append PySem.F.type_list_append mv_app (pv 1) (pva_cons (pve_call (bs := [false]) C_L_within (hr.mono (by decide)) rfl pass0 (pva_cons (pve_op opv_sub (pve_op opv_add (pve_call (bs := [true, true]) C_L_pick (hr.mono (by decide)) rfl pass0 (pva_cons (pve_var 0 (pv 0)) (pva_cons (pve_var 1 (pv 1)) pva_nil))) (pve_call (bs := [true, false]) C_L_draw (hr.mono (by decide)) rfl pass0 (pva_cons (pve_var 0 (pv 0)) (pva_cons pve_int pva_nil)))) pve_int) pva_nil)) pva_nil)))) (pvb_one (pvs_expr (pve_mut (i := 1) PySem.F.slot_list_append PySem.F.type_list_append mv_app (pv 1) (pva_cons (pve_call (bs := [true]) C_L_far (hr.mono (by decide)) rfl pass0 (pva_cons (pve_var 0 (pv 0)) pva_nil)) pva_nil))))))))))))) (by decide) (by decide))
    (pvb_one (pvs_ret (pn := [0]) (pve_ty (cv_tuple) rfl mz_tuple (by decide +kernel) (pva_cons (pve_var 1 (pv 1)) pva_nil))))))
abbrev s_L_unknown : Stmt := topS 12
abbrev N_L_unknown : List Str := ["d", "given", "way"]
theorem sc_L_unknown : FnScope N_L_unknown ["d", "given"] (defScope s_L_unknown) := ⟨rfl, rfl, rfl, by decide +kernel, rfl, by decide +kernel, by decide +kernel⟩
theorem ok_L_unknown {P : Program} {w : World} {K : PySem.W.Frag} {mg : Str → Option Value} {base : Heap} (C_L_draw : Callee P w K mg base 1 "_law_draw" 2 m_L_draw) (C_L_within : Callee P w K mg base 1 "_law_within" 1 m_L_within) (C_L_pick : Callee P w K mg base 2 "_law_pick" 2 m_L_pick) (C_L_far : Callee P w K mg base 2 "_law_far" 1 m_L_far) (mz_len : mg "len" = none) {fa : Addr} {fd : FuncData} (F : Fun K "_law_unknown" "_law_unknown" s_L_unknown fa fd) :
    FnOk P w K mg base CX0 3 fa fd ["d", "given"] (spD K 2 m_L_unknown) := by
  unfold m_L_unknown
  exact def_ok (N := N_L_unknown) (m := 1) (k := 2) (bs := [true, true]) F sc_L_unknown rfl rfl fun cdv A outer s H E hr =>
    (pvb_cons (aSet (i := 2) sc_L_unknown.nd (pve_call (bs := [true, false]) C_L_draw (hr.mono (by decide)) rfl pass0 (pva_cons (pve_var 0 (pv 0)) (pva_cons pve_int pva_nil))))
    (pvb_cons (pvs_if (PVW.t (pvw_and (pvt_cmp (opv_lt) (pve_var 2 (pv 2)) pve_int (nomark _)) (pvw_and1 (pvt_cmp (opv_gt) (pve_bi (cv_len) rfl mz_len (by decide +kernel) (pva_cons (pve_var 1 (pv 1)) pva_nil)) pve_int (nomark _))))) (pvb_one (pvs_ret (pn := [0, 1]) (pve_call (bs := [false]) C_L_within (hr.mono (by decide)) rfl pass0 (pva_cons (pve_op opv_sub (pve_op opv_add (pve_call (bs := [true, true]) C_L_pick (hr.mono (by decide)) rfl pass0 (pva_cons (pve_var 0 (pv 0)) (pva_cons (pve_var 1 (pv 1)) pva_nil))) (pve_call (bs := [true, false]) C_L_draw (hr.mono (by decide)) rfl pass0 (pva_cons (pve_var 0 (pv 0)) (pva_cons pve_int pva_nil)))) pve_int) pva_nil)))) pvb_nil)
    (pvb_cons (pvs_if (pvt_cmp (opv_eq (un_of hr)) (pve_var 2 (pv 2)) pve_int (nomark _)) (pvb_one (pvs_ret (pn := [0, 1]) (pve_call (bs := [true, false]) C_L_pick (hr.mono (by decide)) rfl pass0 (pva_cons (pve_var 0 (pv 0)) (pva_cons (pve_lst (pva_cons (pve_op opv_pow pve_int pve_int) (pva_cons (pve_neg (pve_op opv_pow pve_int pve_int)) (pva_cons pve_int pva_nil)))) pva_nil))))) pvb_nil)
    (pvb_one (pvs_ret (pn := [0, 1]) (pve_call (bs := [true]) C_L_far (hr.mono (by decide)) rfl pass0 (pva_cons (pve_var 0 (pv 0)) pva_nil)))))))
abbrev s_L_own_values : Stmt := topS 13
abbrev N_L_own_values : List Str := ["given", "many", "found", "step", "number", "value"]
theorem sc_L_own_values : FnScope N_L_own_values ["given", "many"] (defScope s_L_own_values) := ⟨rfl, rfl, rfl, by decide +kernel, rfl, by decide +kernel, by decide +kernel⟩
theorem ok_L_own_values {P : Program} {w : World} {K : PySem.W.Frag} {mg : Str → Option Value} {base : Heap} (mz_len : mg "len" = none) (mz_range : mg "range" = none) (mz_list : mg "list" = none) (mz_min : mg "min" = none) (mz_sorted : mg "sorted" = none) (mz_set : mg "set" = none) {fa : Addr} {fd : FuncData} (F : Fun K "_law_own_values" "_law_own_values" s_L_own_values fa fd) :
    FnOk P w K mg base CX0 1 fa fd ["given", "many"] (spD K 2 m_L_own_values) := by
  unfold m_L_own_values
  exact def_ok (N := N_L_own_values) (m := 4) (k := 0) (bs := [true, true]) F sc_L_own_values rfl rfl fun cdv A outer s H E hr =>
    (pvb_cons (pvs_if (pvt_cmp (opv_eq (un_of hr)) (pve_bi (cv_len) rfl mz_len (by decide +kernel) (pva_cons (pve_var 0 (pv 0)) pva_nil)) pve_int (nomark _)) (pvb_one (pvs_ret (pn := [0, 1]) (pve_listRg rfl rfl mz_list (pvr_1 rfl mz_range (pve_var 1 (pv 1)))))) pvb_nil)
    (pvb_cons (pvs_setLc (pn := []) (own := [("step", 3)]) (sl := [3]) (i := 2) rfl sc_L_own_values.nd rfl rfl (sw_true rfl rfl rfl (by decide +kernel)) (by decide) (pvi_range1 rfl mz_range (pva_cons (pve_var 1 (pv 1)) pva_nil)) (blk_by N_L_own_values (defScope s_L_own_values) (by decide +kernel)) (by decide) (fun _ _ _ _ _ => aName (sl := [3]) sc_L_own_values.nd) (fun _ _ _ _ _ => pvts_nil) (fun _ _ _ _ _ => (pve_op opv_sub (pve_op opv_sub (pve_bi (cv_min2 rfl) rfl mz_min (by decide +kernel) (pva_cons (pve_var 0 (pv 0)) pva_nil)) pve_int) (pve_var 3 (pv 3)))))
    (pvb_cons (pvs_for (pn' := [0, 1]) (sl := [4]) rfl PassesOwn.never (pvi_slot (pv 0) (by decide)) (aName (sl := [4]) sc_L_own_values.nd) (pvb_one (aSet (i := 2) sc_L_own_values.nd (pve_op opv_add (pve_var 2 (pv 2)) (pve_lc (pn := []) (own := [("step", 3)]) (sl := [3]) rfl sc_L_own_values.nd (pvi_range1 rfl mz_range (pva_cons (pve_op opv_add (pve_var 1 (pv 1)) pve_int) pva_nil)) (blk_by N_L_own_values (defScope s_L_own_values) (by decide +kernel)) (by decide) (fun _ _ _ _ _ => aName (sl := [3]) sc_L_own_values.nd) (fun _ _ _ _ _ => pvts_nil) (fun _ _ _ _ _ => (pve_op opv_add (pve_var 4 (pv 4)) (pve_var 3 (pv 3)))))))) (by decide) (by decide))
    (pvb_one (pvs_ret (pn := [0, 1]) (pve_lc (pn := []) (own := [("value", 5)]) (sl := [5]) rfl sc_L_own_values.nd (pvi_fz (pve_sortset rfl rfl mz_sorted rfl mz_set (pva_cons (pve_var 2 (pv 2)) pva_nil))) (blk_by N_L_own_values (defScope s_L_own_values) (by decide +kernel)) (by decide) (fun _ _ _ _ _ => aName (sl := [5]) sc_L_own_values.nd) (fun _ _ _ _ _ => pvts_one (pvt_chain op_le op_le (pve_neg (pve_op opv_pow pve_int pve_int)) (pve_var 5 (pv 5)) (pve_op opv_pow pve_int pve_int))) (fun _ _ _ _ _ => (pve_var 5 (pv 5)))))))))
abbrev s_L_spot : Stmt := topS 14
abbrev N_L_spot : List Str := ["given", "number", "one"]
theorem sc_L_spot : FnScope N_L_spot ["given", "number"] (defScope s_L_spot) := ⟨rfl, rfl, rfl, by decide +kernel, rfl, by decide +kernel, by decide +kernel⟩
theorem ok_L_spot {P : Program} {w : World} {K : PySem.W.Frag} {mg : Str → Option Value} {base : Heap} (mz_len : mg "len" = none) {fa : Addr} {fd : FuncData} (F : Fun K "_law_spot" "_law_spot" s_L_spot fa fd) :
    FnOk P w K mg base CX0 1 fa fd ["given", "number"] (spD K 2 m_L_spot) := by
  unfold m_L_spot
  exact def_ok (N := N_L_spot) (m := 1) (k := 0) (bs := [true, true]) F sc_L_spot rfl rfl fun cdv A outer s H E hr =>
    (pvb_one (pvs_ret (pn := [0, 1]) (pve_tup (pva_cons (pve_bi (cv_len) rfl mz_len (by decide +kernel) (pva_cons (pve_lc (pn := [0]) (own := [("one", 2)]) (sl := [2]) rfl sc_L_spot.nd (pvi_slot (pv 0) (by decide)) (blk_by N_L_spot (defScope s_L_spot) (by decide +kernel)) (by decide) (fun _ _ _ _ _ => aName (sl := [2]) sc_L_spot.nd) (fun _ _ _ _ _ => pvts_one (pvt_cmp (opv_lt) (pve_var 2 (pv 2)) (pve_var 1 (pv 1)) (nomark _))) (fun _ _ _ _ _ => (pve_var 2 (pv 2)))) pva_nil)) (pva_cons (pve_cmp (opv_in (un_of hr)) (pve_var 1 (pv 1)) (pve_var 0 (pv 0)) (by with_unfolding_all rfl)) pva_nil)))))
abbrev s_L_sign : Stmt := topS 15
abbrev N_L_sign : List Str := ["one", "other"]
theorem sc_L_sign : FnScope N_L_sign ["one", "other"] (defScope s_L_sign) := ⟨rfl, rfl, rfl, by decide +kernel, rfl, by decide +kernel, by decide +kernel⟩
theorem ok_L_sign {P : Program} {w : World} {K : PySem.W.Frag} {mg : Str → Option Value} {base : Heap} (mz_int : mg "int" = none) {fa : Addr} {fd : FuncData} (F : Fun K "_law_sign" "_law_sign" s_L_sign fa fd) :
    FnOk P w K mg base CX0 1 fa fd ["one", "other"] (spD K 2 m_L_sign) := by
  unfold m_L_sign
  exact def_ok (N := N_L_sign) (m := 0) (k := 0) (bs := [true, true]) F sc_L_sign rfl rfl fun cdv A outer s H E hr =>
    (pvb_one (pvs_ret (pn := [0, 1]) (pve_op opv_sub (pve_ty (cv_int) rfl mz_int (by decide +kernel) (pva_cons (pve_cmp (opv_gt) (pve_var 0 (pv 0)) (pve_var 1 (pv 1)) (nomark _)) pva_nil)) (pve_ty (cv_int) rfl mz_int (by decide +kernel) (pva_cons (pve_cmp (opv_lt) (pve_var 0 (pv 0)) (pve_var 1 (pv 1)) (nomark _)) pva_nil)))))
abbrev s_L_is_like : Stmt := topS 16
abbrev N_L_is_like : List Str := ["chosen", "value", "sought", "many", "at"]
theorem sc_L_is_like : FnScope N_L_is_like ["chosen", "value", "sought"] (defScope s_L_is_like) := ⟨rfl, rfl, rfl, by decide +kernel, rfl, by decide +kernel, by decide +kernel⟩
theorem ok_L_is_like {P : Program} {w : World} {K : PySem.W.Frag} {mg : Str → Option Value} {base : Heap} (C_L_sign : Callee P w K mg base 1 "_law_sign" 2 m_L_sign) (mz_len : mg "len" = none) (mz_range : mg "range" = none) (mz_all : mg "all" = none) {fa : Addr} {fd : FuncData} (F : Fun K "_law_is_like" "_law_is_like" s_L_is_like fa fd) :
    FnOk P w K mg base CX0 2 fa fd ["chosen", "value", "sought"] (spD K 3 m_L_is_like) := by
  unfold m_L_is_like
  exact def_ok (N := N_L_is_like) (m := 2) (k := 1) (bs := [true, true, true]) F sc_L_is_like rfl rfl fun cdv A outer s H E hr =>
    (pvb_cons (aSet (i := 3) sc_L_is_like.nd (pve_bi (cv_len) rfl mz_len (by decide +kernel) (pva_cons (pve_var 0 (pv 0)) pva_nil)))
    (pvb_one (pvs_ret (pn := [0, 1, 2]) (pve_bi (cv_all rfl) rfl mz_all (by decide +kernel) (pva_cons (pve_lc (pn := []) (own := [("at", 4)]) (sl := [4]) rfl sc_L_is_like.nd (pvi_range1 rfl mz_range (pva_cons (pve_var 3 (pv 3)) pva_nil)) (blk_by N_L_is_like (defScope s_L_is_like) (by decide +kernel)) (by decide) (fun _ _ _ _ _ => aName (sl := [4]) sc_L_is_like.nd) (fun _ _ _ _ _ => pvts_nil) (fun _ _ _ _ _ => (pve_cmp (opv_eq (un_of hr)) (pve_call (bs := [false, true]) C_L_sign (hr.mono (by decide)) rfl pass0 (pva_cons (pve_ix (pve_var 0 (pv 0)) (pve_var 4 (pv 4))) (pva_cons (pve_var 1 (pv 1)) pva_nil))) (pve_call (bs := [false, false]) C_L_sign (hr.mono (by decide)) rfl pass0 (pva_cons (pve_ix (pve_var 2 (pv 2)) (pve_var 4 (pv 4))) (pva_cons (pve_ix (pve_var 2 (pv 2)) (pve_var 3 (pv 3))) pva_nil))) (nomark _)))) pva_nil)))))
abbrev s_L_has_order : Stmt := topS 17
abbrev N_L_has_order : List Str := ["given", "answer", "spots", "sought", "found", "k", "spot", "fitting", "at", "longer", "chosen", "value"]
theorem sc_L_has_order : FnScope N_L_has_order ["given", "answer", "spots", "sought"] (defScope s_L_has_order) := ⟨rfl, rfl, rfl, by decide +kernel, rfl, by decide +kernel, by decide +kernel⟩
theorem ok_L_has_order {P : Program} {w : World} {K : PySem.W.Frag} {mg : Str → Option Value} {base : Heap} (C_L_spot : Callee P w K mg base 1 "_law_spot" 2 m_L_spot) (C_L_is_like : Callee P w K mg base 2 "_law_is_like" 3 m_L_is_like) (mz_len : mg "len" = none) (mz_range : mg "range" = none) {fa : Addr} {fd : FuncData} (F : Fun K "_law_has_order" "_law_has_order" s_L_has_order fa fd) :
    FnOk P w K mg base CX0 3 fa fd ["given", "answer", "spots", "sought"] (spD K 4 m_L_has_order) := by
  unfold m_L_has_order
  exact def_ok (N := N_L_has_order) (m := 8) (k := 2) (bs := [true, true, true, true]) F sc_L_has_order rfl rfl fun cdv A outer s H E hr =>
    (pvb_cons (aSet (i := 4) sc_L_has_order.nd (pve_lst (pva_cons (pve_tup pva_nil) pva_nil)))
    (pvb_cons (pvs_for (pn' := [0, 1, 2, 3]) (sl := [5]) rfl PassesOwn.never (pvi_range1 rfl mz_range (pva_cons (pve_bi (cv_len) rfl mz_len (by decide +kernel) (pva_cons (pve_var 3 (pv 3)) pva_nil)) pva_nil)) (aName (sl := [5]) sc_L_has_order.nd) (pvb_cons (aSet (i := 6) sc_L_has_order.nd (pve_call (bs := [true, false]) C_L_spot (hr.mono (by decide)) rfl pass0 (pva_cons (pve_var 0 (pv 0)) (pva_cons (pve_ix (pve_var 3 (pv 3)) (pve_var 5 (pv 5))) pva_nil))))
    (pvb_cons (pvs_setLc (pn := []) (own := [("at", 8)]) (sl := [8]) (i := 7) rfl sc_L_has_order.nd rfl rfl (sw_true rfl rfl rfl (by decide +kernel)) (by decide) (pvi_range1 rfl mz_range (pva_cons (pve_bi (cv_len) rfl mz_len (by decide +kernel) (pva_cons (pve_var 1 (pv 1)) pva_nil)) pva_nil)) (blk_by N_L_has_order (defScope s_L_has_order) (by decide +kernel)) (by decide) (fun _ _ _ _ _ => aName (sl := [8]) sc_L_has_order.nd) (fun _ _ _ _ _ => pvts_one (pvt_cmp (opv_eq (un_of hr)) (pve_ix (pve_var 2 (pv 2)) (pve_var 8 (pv 8))) (pve_var 6 (pv 6)) (nomark _))) (fun _ _ _ _ _ => (pve_ix (pve_var 1 (pv 1)) (pve_var 8 (pv 8)))))
    (pvb_cons (aSet (i := 9) sc_L_has_order.nd (pve_lst pva_nil))
    (pvb_cons (pvs_for (pn' := [0, 1, 2, 3, 4]) (sl := [10]) rfl PassesOwn.never (pvi_slot (pv 4) (by decide)) (aName (sl := [10]) sc_L_has_order.nd) (pvb_one (aSet (i := 9) sc_L_has_order.nd (pve_op opv_add (pve_var 9 (pv 9)) (pve_lc (pn := [7]) (own := [("value", 11)]) (sl := [11]) rfl sc_L_has_order.nd (pvi_slot (pv 7) (by decide)) (blk_by N_L_has_order (defScope s_L_has_order) (by decide +kernel)) (by decide) (fun _ _ _ _ _ => aName (sl := [11]) sc_L_has_order.nd) (fun _ _ _ _ _ => pvts_one (pvt_tr (pve_call (bs := [true, true, true]) C_L_is_like (hr.mono (by decide)) rfl pass0 (pva_cons (pve_var 10 (pv 10)) (pva_cons (pve_var 11 (pv 11)) (pva_cons (pve_var 3 (pv 3)) pva_nil)))))) (fun _ _ _ _ _ => (pve_op opv_add (pve_var 10 (pv 10)) (pve_tup (pva_cons (pve_var 11 (pv 11)) pva_nil)))))))) (by decide) (by decide))
    (pvb_one (aSet (i := 4) sc_L_has_order.nd (pve_var 9 (pv 9)))))))) (by decide) (by decide))
    (pvb_one (pvs_ret (pn := [0, 1, 2, 3]) (pve_cmp (opv_gt) (pve_bi (cv_len) rfl mz_len (by decide +kernel) (pva_cons (pve_var 4 (pv 4)) pva_nil)) pve_int (nomark _))))))
abbrev s_L_lot : Stmt := topS 18
abbrev N_L_lot : List Str := ["d", "given", "many", "soughts", "k", "at"]
theorem sc_L_lot : FnScope N_L_lot ["d"] (defScope s_L_lot) := ⟨rfl, rfl, rfl, by decide +kernel, rfl, by decide +kernel, by decide +kernel⟩
theorem ok_L_lot {P : Program} {w : World} {K : PySem.W.Frag} {mg : Str → Option Value} {base : Heap} (C_L_given : Callee P w K mg base 3 "_law_given" 1 m_L_given) (C_L_draw : Callee P w K mg base 1 "_law_draw" 2 m_L_draw) (C_L_unknown : Callee P w K mg base 3 "_law_unknown" 2 m_L_unknown) (mz_range : mg "range" = none) (mz_min : mg "min" = none) {fa : Addr} {fd : FuncData} (F : Fun K "_law_lot" "_law_lot" s_L_lot fa fd) :
    FnOk P w K mg base CX0 4 fa fd ["d"] (spD K 1 m_L_lot) := by
  unfold m_L_lot
  exact def_ok (N := N_L_lot) (m := 5) (k := 3) (bs := [true]) F sc_L_lot rfl rfl fun cdv A outer s H E hr =>
    (pvb_cons (aSet (i := 1) sc_L_lot.nd (pve_call (bs := [true]) C_L_given (hr.mono (by decide)) rfl pass0 (pva_cons (pve_var 0 (pv 0)) pva_nil)))
    (pvb_cons (aSet (i := 2) sc_L_lot.nd (pve_if (pvt_cmp (opv_eq (un_of hr)) (pve_call (bs := [true, false]) C_L_draw (hr.mono (by decide)) rfl pass0 (pva_cons (pve_var 0 (pv 0)) (pva_cons pve_int pva_nil))) pve_int (nomark _)) (pve_call (bs := [true, false]) C_L_draw (hr.mono (by decide)) rfl pass0 (pva_cons (pve_var 0 (pv 0)) (pva_cons pve_int pva_nil))) (pve_call (bs := [true, false]) C_L_draw (hr.mono (by decide)) rfl pass0 (pva_cons (pve_var 0 (pv 0)) (pva_cons pve_int pva_nil)))))
    (pvb_cons (aSet (i := 3) sc_L_lot.nd (pve_lst pva_nil))
    (pvb_cons (pvs_for (pn' := [0]) (sl := [4]) rfl PassesOwn.never (pvi_range1 rfl mz_range (pva_cons pve_int pva_nil)) (aName (sl := [4]) sc_L_lot.nd) (pvb_one (pvs_expr (pve_mut (i := 3) PySem.F.slot_list_append PySem.F.type_list_append mv_app (pv 3) (pva_cons (pve_lc (pn := []) (own := [("at", 5)]) (sl := [5]) rfl sc_L_lot.nd (pvi_range1 rfl mz_range (pva_cons (pve_bi (cv_min2 rfl) rfl mz_min (by decide +kernel) (pva_cons (pve_var 2 (pv 2)) (pva_cons pve_int pva_nil))) pva_nil)) (blk_by N_L_lot (defScope s_L_lot) (by decide +kernel)) (by decide) (fun _ _ _ _ _ => aName (sl := [5]) sc_L_lot.nd) (fun _ _ _ _ _ => pvts_nil) (fun _ _ _ _ _ => (pve_call (bs := [true, true]) C_L_unknown (hr.mono (by decide)) rfl pass0 (pva_cons (pve_var 0 (pv 0)) (pva_cons (pve_var 1 (pv 1)) pva_nil))))) pva_nil)))) (by decide) (by decide))
    (pvb_one (pvs_ret (pn := [0]) (pve_tup (pva_cons (pve_var 1 (pv 1)) (pva_cons (pve_var 2 (pv 2)) (pva_cons (pve_var 3 (pv 3)) pva_nil))))))))))
abbrev s_law : Stmt := topS 19
abbrev N_law : List Str := ["script", "d", "first", "second", "given", "many", "soughts", "answer", "spots", "value", "sought"]
theorem sc_law : FnScope N_law ["script"] (defScope s_law) := ⟨rfl, rfl, rfl, by decide +kernel, rfl, by decide +kernel, by decide +kernel⟩
theorem ok_law {P : Program} {w : World} {K : PySem.W.Frag} {mg : Str → Option Value} {base : Heap} (C_L_begin : Callee P w K mg base 1 "_law_begin" 1 m_L_begin) (C_L_lot : Callee P w K mg base 4 "_law_lot" 1 m_L_lot) (C_probe_values : Callee P w K mg base 1 "probe_values" 2 m_probe_values) (C_L_is_ints : Callee P w K mg base 2 "_law_is_ints" 1 m_L_is_ints) (C_L_own_values : Callee P w K mg base 1 "_law_own_values" 2 m_L_own_values) (C_L_spot : Callee P w K mg base 1 "_law_spot" 2 m_L_spot) (C_L_has_order : Callee P w K mg base 3 "_law_has_order" 4 m_L_has_order) (mz_list : mg "list" = none) {fa : Addr} {fd : FuncData} (F : Fun K "law" "law" s_law fa fd) :
    FnOk P w K mg base CX0 5 fa fd ["script"] (spD K 1 m_law) := by
  unfold m_law
  exact def_ok (N := N_law) (m := 10) (k := 4) (bs := [true]) F sc_law rfl rfl fun cdv A outer s H E hr =>
    (pvb_cons (aSet (i := 1) sc_law.nd (pve_call (bs := [true]) C_L_begin (hr.mono (by decide)) rfl pass0 (pva_cons (pve_var 0 (pv 0)) pva_nil)))
    (pvb_cons (aSet (i := 2) sc_law.nd (pve_call (bs := [true]) C_L_lot (hr.mono (by decide)) rfl pass0 (pva_cons (pve_var 1 (pv 1)) pva_nil)))
    (pvb_cons (aSet (i := 3) sc_law.nd (pve_call (bs := [true]) C_L_lot (hr.mono (by decide)) rfl pass0 (pva_cons (pve_var 1 (pv 1)) pva_nil)))
    (pvb_cons (pvs_for (pn' := [0]) (sl := [4, 5, 6]) rfl PassesOwn.never (pvi_fz (pve_lst (pva_cons (pve_var 2 (pv 2)) (pva_cons (pve_var 3 (pv 3)) (pva_cons (pve_var 2 (pv 2)) pva_nil))))) (pvg_tup rfl (pvgs_cons (aName (sl := [4, 5, 6]) sc_law.nd) (pvgs_cons (aName (sl := [4, 5, 6]) sc_law.nd) (pvgs_cons (aName (sl := [4, 5, 6]) sc_law.nd) pvgs_nil)))) (pvb_cons (aSet (i := 7) sc_law.nd (pve_call (bs := [true, true]) C_probe_values (hr.mono (by decide)) rfl pass0 (pva_cons (pve_var 4 (pv 4)) (pva_cons (pve_var 5 (pv 5)) pva_nil))))
    (pvb_cons (pvs_if (PVW.t (pvw_or (pvt_not (pvt_tr (pve_call (bs := [true]) C_L_is_ints (hr.mono (by decide)) rfl pass0 (pva_cons (pve_var 7 (pv 7)) pva_nil)))) (pvw_or1 (pvt_cmp (opv_ne (un_of hr)) (pve_ty (cv_list) rfl mz_list (by decide +kernel) (pva_cons (pve_var 7 (pv 7)) pva_nil)) (pve_call (bs := [true, true]) C_L_own_values (hr.mono (by decide)) rfl pass0 (pva_cons (pve_var 4 (pv 4)) (pva_cons (pve_var 5 (pv 5)) pva_nil))) (nomark _))))) (pvb_one (pvs_ret (pn := [0]) pve_bl)) pvb_nil)
    (pvb_cons (pvs_setLc (pn := [7]) (own := [("value", 9)]) (sl := [9]) (i := 8) rfl sc_law.nd rfl rfl (sw_true rfl rfl rfl (by decide +kernel)) (by decide) (pvi_slot (pv 7) (by decide)) (blk_by N_law (defScope s_law) (by decide +kernel)) (by decide) (fun _ _ _ _ _ => aName (sl := [9]) sc_law.nd) (fun _ _ _ _ _ => pvts_nil) (fun _ _ _ _ _ => (pve_call (bs := [true, true]) C_L_spot (hr.mono (by decide)) rfl pass0 (pva_cons (pve_var 4 (pv 4)) (pva_cons (pve_var 9 (pv 9)) pva_nil)))))
    (pvb_one (pvs_for (pn' := [0, 6]) (sl := [10]) rfl PassesOwn.never (pvi_slot (pv 6) (by decide)) (aName (sl := [10]) sc_law.nd) (pvb_one (pvs_if (pvt_not (pvt_tr (pve_call (bs := [true, true, true, true]) C_L_has_order (hr.mono (by decide)) rfl pass0 (pva_cons (pve_var 4 (pv 4)) (pva_cons (pve_var 7 (pv 7)) (pva_cons (pve_var 8 (pv 8)) (pva_cons (pve_var 10 (pv 10)) pva_nil))))))) (pvb_one (pvs_ret (pn := [0, 6]) pve_bl)) pvb_nil)) (by decide) (by decide)))))) (by decide) (by decide))
    (pvb_one (pvs_ret (pn := [0]) pve_bl))))))
end K60
end
set_option Elab.async false
set_option linter.all false
set_option maxRecDepth 100000
set_option maxHeartbeats 4000000
namespace K60
open PySem L2 PV
section
variable {l : PySem.W.OpenLaw} {w : World} {K : PySem.W.Frag} {h : Heap} {mg : Str → Option Value}
theorem all_mk (X : K.In h) (G : h.Ns mainGlobals mg) {fa : Addr} (hfa : mg "law" = some (.ref fa))
    {od0 an0 : Option Addr} {sl0 : Array (Option Value)} {oc0 kV0 dc0 pm0 cd0 ct0 : Value} {f0 : Addr}
    {od1 an1 : Option Addr} {sl1 : Array (Option Value)} {oc1 kV1 dc1 pm1 cd1 ct1 : Value} {f1 : Addr}
    {od2 an2 : Option Addr} {sl2 : Array (Option Value)} {oc2 kV2 dc2 pm2 cd2 ct2 : Value} {f2 : Addr}
    {od3 an3 : Option Addr} {sl3 : Array (Option Value)} {oc3 kV3 dc3 pm3 cd3 ct3 : Value} {f3 : Addr}
    {od4 an4 : Option Addr} {sl4 : Array (Option Value)} {oc4 kV4 dc4 pm4 cd4 ct4 : Value} {f4 : Addr}
    {od5 an5 : Option Addr} {sl5 : Array (Option Value)} {oc5 kV5 dc5 pm5 cd5 ct5 : Value} {f5 : Addr}
    {od6 an6 : Option Addr} {sl6 : Array (Option Value)} {oc6 kV6 dc6 pm6 cd6 ct6 : Value} {f6 : Addr}
    {od7 an7 : Option Addr} {sl7 : Array (Option Value)} {oc7 kV7 dc7 pm7 cd7 ct7 : Value} {f7 : Addr}
    {od8 an8 : Option Addr} {sl8 : Array (Option Value)} {oc8 kV8 dc8 pm8 cd8 ct8 : Value} {f8 : Addr}
    {od9 an9 : Option Addr} {sl9 : Array (Option Value)} {oc9 kV9 dc9 pm9 cd9 ct9 : Value} {f9 : Addr}
    {od10 an10 : Option Addr} {sl10 : Array (Option Value)} {oc10 kV10 dc10 pm10 cd10 ct10 : Value} {f10 : Addr}
    {od11 an11 : Option Addr} {sl11 : Array (Option Value)} {oc11 kV11 dc11 pm11 cd11 ct11 : Value} {f11 : Addr}
    {od12 an12 : Option Addr} {sl12 : Array (Option Value)} {oc12 kV12 dc12 pm12 cd12 ct12 : Value} {f12 : Addr}
    {od13 an13 : Option Addr} {sl13 : Array (Option Value)} {oc13 kV13 dc13 pm13 cd13 ct13 : Value} {f13 : Addr}
    {od14 an14 : Option Addr} {sl14 : Array (Option Value)} {oc14 kV14 dc14 pm14 cd14 ct14 : Value} {f14 : Addr}
    {od15 an15 : Option Addr} {sl15 : Array (Option Value)} {oc15 kV15 dc15 pm15 cd15 ct15 : Value} {f15 : Addr}
    {od16 an16 : Option Addr} {sl16 : Array (Option Value)} {oc16 kV16 dc16 pm16 cd16 ct16 : Value} {f16 : Addr}
    {t_FAR : Tok}
    (a0 : PySem.W.nsIn K mainGlobals "probe_values" = some (some (.ref f0))) (l0 : K.lookup f0 = some ⟨oc0, od0, .func (PySem.W.fnOf "probe_values" "probe_values" (defArgs s_probe_values) (defBody s_probe_values) (defScope s_probe_values) .none kV0 dc0 pm0 an0 cd0 ct0), sl0⟩) (c0 : PySem.W.codeIn K cd0 "probe_values" = true) (k0 : PySem.W.keepIn K (.ref f0) = true)
    (a1 : PySem.W.nsIn K mainGlobals "_law_begin" = some (some (.ref f1))) (l1 : K.lookup f1 = some ⟨oc1, od1, .func (PySem.W.fnOf "_law_begin" "_law_begin" (defArgs s_L_begin) (defBody s_L_begin) (defScope s_L_begin) .none kV1 dc1 pm1 an1 cd1 ct1), sl1⟩) (c1 : PySem.W.codeIn K cd1 "_law_begin" = true) (k1 : PySem.W.keepIn K (.ref f1) = true)
    (a2 : PySem.W.nsIn K mainGlobals "_law_draw" = some (some (.ref f2))) (l2 : K.lookup f2 = some ⟨oc2, od2, .func (PySem.W.fnOf "_law_draw" "_law_draw" (defArgs s_L_draw) (defBody s_L_draw) (defScope s_L_draw) .none kV2 dc2 pm2 an2 cd2 ct2), sl2⟩) (c2 : PySem.W.codeIn K cd2 "_law_draw" = true) (k2 : PySem.W.keepIn K (.ref f2) = true)
    (a3 : PySem.W.nsIn K mainGlobals "_law_pick" = some (some (.ref f3))) (l3 : K.lookup f3 = some ⟨oc3, od3, .func (PySem.W.fnOf "_law_pick" "_law_pick" (defArgs s_L_pick) (defBody s_L_pick) (defScope s_L_pick) .none kV3 dc3 pm3 an3 cd3 ct3), sl3⟩) (c3 : PySem.W.codeIn K cd3 "_law_pick" = true) (k3 : PySem.W.keepIn K (.ref f3) = true)
    (a4 : PySem.W.nsIn K mainGlobals "_law_is_int" = some (some (.ref f4))) (l4 : K.lookup f4 = some ⟨oc4, od4, .func (PySem.W.fnOf "_law_is_int" "_law_is_int" (defArgs s_L_is_int) (defBody s_L_is_int) (defScope s_L_is_int) .none kV4 dc4 pm4 an4 cd4 ct4), sl4⟩) (c4 : PySem.W.codeIn K cd4 "_law_is_int" = true) (k4 : PySem.W.keepIn K (.ref f4) = true)
    (a5 : PySem.W.nsIn K mainGlobals "_law_is_ints" = some (some (.ref f5))) (l5 : K.lookup f5 = some ⟨oc5, od5, .func (PySem.W.fnOf "_law_is_ints" "_law_is_ints" (defArgs s_L_is_ints) (defBody s_L_is_ints) (defScope s_L_is_ints) .none kV5 dc5 pm5 an5 cd5 ct5), sl5⟩) (c5 : PySem.W.codeIn K cd5 "_law_is_ints" = true) (k5 : PySem.W.keepIn K (.ref f5) = true)
    (a6 : PySem.W.nsIn K mainGlobals "_law_far" = some (some (.ref f6))) (l6 : K.lookup f6 = some ⟨oc6, od6, .func (PySem.W.fnOf "_law_far" "_law_far" (defArgs s_L_far) (defBody s_L_far) (defScope s_L_far) .none kV6 dc6 pm6 an6 cd6 ct6), sl6⟩) (c6 : PySem.W.codeIn K cd6 "_law_far" = true) (k6 : PySem.W.keepIn K (.ref f6) = true)
    (a7 : PySem.W.nsIn K mainGlobals "_law_within" = some (some (.ref f7))) (l7 : K.lookup f7 = some ⟨oc7, od7, .func (PySem.W.fnOf "_law_within" "_law_within" (defArgs s_L_within) (defBody s_L_within) (defScope s_L_within) .none kV7 dc7 pm7 an7 cd7 ct7), sl7⟩) (c7 : PySem.W.codeIn K cd7 "_law_within" = true) (k7 : PySem.W.keepIn K (.ref f7) = true)
    (a8 : PySem.W.nsIn K mainGlobals "_law_given" = some (some (.ref f8))) (l8 : K.lookup f8 = some ⟨oc8, od8, .func (PySem.W.fnOf "_law_given" "_law_given" (defArgs s_L_given) (defBody s_L_given) (defScope s_L_given) .none kV8 dc8 pm8 an8 cd8 ct8), sl8⟩) (c8 : PySem.W.codeIn K cd8 "_law_given" = true) (k8 : PySem.W.keepIn K (.ref f8) = true)
    (a9 : PySem.W.nsIn K mainGlobals "_law_unknown" = some (some (.ref f9))) (l9 : K.lookup f9 = some ⟨oc9, od9, .func (PySem.W.fnOf "_law_unknown" "_law_unknown" (defArgs s_L_unknown) (defBody s_L_unknown) (defScope s_L_unknown) .none kV9 dc9 pm9 an9 cd9 ct9), sl9⟩) (c9 : PySem.W.codeIn K cd9 "_law_unknown" = true) (k9 : PySem.W.keepIn K (.ref f9) = true)
    (a10 : PySem.W.nsIn K mainGlobals "_law_own_values" = some (some (.ref f10))) (l10 : K.lookup f10 = some ⟨oc10, od10, .func (PySem.W.fnOf "_law_own_values" "_law_own_values" (defArgs s_L_own_values) (defBody s_L_own_values) (defScope s_L_own_values) .none kV10 dc10 pm10 an10 cd10 ct10), sl10⟩) (c10 : PySem.W.codeIn K cd10 "_law_own_values" = true) (k10 : PySem.W.keepIn K (.ref f10) = true)
    (a11 : PySem.W.nsIn K mainGlobals "_law_spot" = some (some (.ref f11))) (l11 : K.lookup f11 = some ⟨oc11, od11, .func (PySem.W.fnOf "_law_spot" "_law_spot" (defArgs s_L_spot) (defBody s_L_spot) (defScope s_L_spot) .none kV11 dc11 pm11 an11 cd11 ct11), sl11⟩) (c11 : PySem.W.codeIn K cd11 "_law_spot" = true) (k11 : PySem.W.keepIn K (.ref f11) = true)
    (a12 : PySem.W.nsIn K mainGlobals "_law_sign" = some (some (.ref f12))) (l12 : K.lookup f12 = some ⟨oc12, od12, .func (PySem.W.fnOf "_law_sign" "_law_sign" (defArgs s_L_sign) (defBody s_L_sign) (defScope s_L_sign) .none kV12 dc12 pm12 an12 cd12 ct12), sl12⟩) (c12 : PySem.W.codeIn K cd12 "_law_sign" = true) (k12 : PySem.W.keepIn K (.ref f12) = true)
    (a13 : PySem.W.nsIn K mainGlobals "_law_is_like" = some (some (.ref f13))) (l13 : K.lookup f13 = some ⟨oc13, od13, .func (PySem.W.fnOf "_law_is_like" "_law_is_like" (defArgs s_L_is_like) (defBody s_L_is_like) (defScope s_L_is_like) .none kV13 dc13 pm13 an13 cd13 ct13), sl13⟩) (c13 : PySem.W.codeIn K cd13 "_law_is_like" = true) (k13 : PySem.W.keepIn K (.ref f13) = true)
    (a14 : PySem.W.nsIn K mainGlobals "_law_has_order" = some (some (.ref f14))) (l14 : K.lookup f14 = some ⟨oc14, od14, .func (PySem.W.fnOf "_law_has_order" "_law_has_order" (defArgs s_L_has_order) (defBody s_L_has_order) (defScope s_L_has_order) .none kV14 dc14 pm14 an14 cd14 ct14), sl14⟩) (c14 : PySem.W.codeIn K cd14 "_law_has_order" = true) (k14 : PySem.W.keepIn K (.ref f14) = true)
    (a15 : PySem.W.nsIn K mainGlobals "_law_lot" = some (some (.ref f15))) (l15 : K.lookup f15 = some ⟨oc15, od15, .func (PySem.W.fnOf "_law_lot" "_law_lot" (defArgs s_L_lot) (defBody s_L_lot) (defScope s_L_lot) .none kV15 dc15 pm15 an15 cd15 ct15), sl15⟩) (c15 : PySem.W.codeIn K cd15 "_law_lot" = true) (k15 : PySem.W.keepIn K (.ref f15) = true)
    (a16 : PySem.W.nsIn K mainGlobals "law" = some (some (.ref f16))) (l16 : K.lookup f16 = some ⟨oc16, od16, .func (PySem.W.fnOf "law" "law" (defArgs s_law) (defBody s_law) (defScope s_law) .none kV16 dc16 pm16 an16 cd16 ct16), sl16⟩) (c16 : PySem.W.codeIn K cd16 "law" = true) (k16 : PySem.W.keepIn K (.ref f16) = true)
    (z_abs : PySem.W.nsIn K mainGlobals "abs" = some none)
    (z_all : PySem.W.nsIn K mainGlobals "all" = some none)
    (z_bool : PySem.W.nsIn K mainGlobals "bool" = some none)
    (z_enumerate : PySem.W.nsIn K mainGlobals "enumerate" = some none)
    (z_int : PySem.W.nsIn K mainGlobals "int" = some none)
    (z_isinstance : PySem.W.nsIn K mainGlobals "isinstance" = some none)
    (z_len : PySem.W.nsIn K mainGlobals "len" = some none)
    (z_list : PySem.W.nsIn K mainGlobals "list" = some none)
    (z_max : PySem.W.nsIn K mainGlobals "max" = some none)
    (z_min : PySem.W.nsIn K mainGlobals "min" = some none)
    (z_range : PySem.W.nsIn K mainGlobals "range" = some none)
    (z_set : PySem.W.nsIn K mainGlobals "set" = some none)
    (z_sorted : PySem.W.nsIn K mainGlobals "sorted" = some none)
    (z_tuple : PySem.W.nsIn K mainGlobals "tuple" = some none)
    (v_FAR : PySem.W.nsIn K mainGlobals "FAR" = some (some (.int 1000000000000 t_FAR))) :
    ∃ fd : FuncData, (∀ (s : Shared) (v : Value), BindsTo s fd ⟨[v], []⟩ [("script", v)]) ∧ ∀ base : Heap, K.In base → base.Ns mainGlobals mg → FnOk l.prog w K mg base CX0 5 fa fd ["script"] (spD K 1 m_law) := by
  have e := hfa.symm.trans (PySem.W.mg_of X G a16)
  cases e
  have mz_abs := PySem.W.mg_none_of X G z_abs
  have mz_all := PySem.W.mg_none_of X G z_all
  have mz_bool := PySem.W.mg_none_of X G z_bool
  have mz_enumerate := PySem.W.mg_none_of X G z_enumerate
  have mz_int := PySem.W.mg_none_of X G z_int
  have mz_isinstance := PySem.W.mg_none_of X G z_isinstance
  have mz_len := PySem.W.mg_none_of X G z_len
  have mz_list := PySem.W.mg_none_of X G z_list
  have mz_max := PySem.W.mg_none_of X G z_max
  have mz_min := PySem.W.mg_none_of X G z_min
  have mz_range := PySem.W.mg_none_of X G z_range
  have mz_set := PySem.W.mg_none_of X G z_set
  have mz_sorted := PySem.W.mg_none_of X G z_sorted
  have mz_tuple := PySem.W.mg_none_of X G z_tuple
  have mc_FAR := PySem.W.mg_of X G v_FAR
  have F0 := fun_mk (st := s_probe_values) l0 c0 k0
  have F1 := fun_mk (st := s_L_begin) l1 c1 k1
  have F2 := fun_mk (st := s_L_draw) l2 c2 k2
  have F3 := fun_mk (st := s_L_pick) l3 c3 k3
  have F4 := fun_mk (st := s_L_is_int) l4 c4 k4
  have F5 := fun_mk (st := s_L_is_ints) l5 c5 k5
  have F6 := fun_mk (st := s_L_far) l6 c6 k6
  have F7 := fun_mk (st := s_L_within) l7 c7 k7
  have F8 := fun_mk (st := s_L_given) l8 c8 k8
  have F9 := fun_mk (st := s_L_unknown) l9 c9 k9
  have F10 := fun_mk (st := s_L_own_values) l10 c10 k10
  have F11 := fun_mk (st := s_L_spot) l11 c11 k11
  have F12 := fun_mk (st := s_L_sign) l12 c12 k12
  have F13 := fun_mk (st := s_L_is_like) l13 c13 k13
  have F14 := fun_mk (st := s_L_has_order) l14 c14 k14
  have F15 := fun_mk (st := s_L_lot) l15 c15 k15
  have F16 := fun_mk (st := s_law) l16 c16 k16
  have B0 := F0.binds (ps := ["given", "many"]) fun _ _ _ _ _ _ us hl => match us, hl with | [_, _], _ => rfl
  have B1 := F1.binds (ps := ["script"]) fun _ _ _ _ _ _ us hl => match us, hl with | [_], _ => rfl
  have B2 := F2.binds (ps := ["d", "many"]) fun _ _ _ _ _ _ us hl => match us, hl with | [_, _], _ => rfl
  have B3 := F3.binds (ps := ["d", "row"]) fun _ _ _ _ _ _ us hl => match us, hl with | [_, _], _ => rfl
  have B4 := F4.binds (ps := ["thing"]) fun _ _ _ _ _ _ us hl => match us, hl with | [_], _ => rfl
  have B5 := F5.binds (ps := ["thing"]) fun _ _ _ _ _ _ us hl => match us, hl with | [_], _ => rfl
  have B6 := F6.binds (ps := ["d"]) fun _ _ _ _ _ _ us hl => match us, hl with | [_], _ => rfl
  have B7 := F7.binds (ps := ["number"]) fun _ _ _ _ _ _ us hl => match us, hl with | [_], _ => rfl
  have B8 := F8.binds (ps := ["d"]) fun _ _ _ _ _ _ us hl => match us, hl with | [_], _ => rfl
  have B9 := F9.binds (ps := ["d", "given"]) fun _ _ _ _ _ _ us hl => match us, hl with | [_, _], _ => rfl
  have B10 := F10.binds (ps := ["given", "many"]) fun _ _ _ _ _ _ us hl => match us, hl with | [_, _], _ => rfl
  have B11 := F11.binds (ps := ["given", "number"]) fun _ _ _ _ _ _ us hl => match us, hl with | [_, _], _ => rfl
  have B12 := F12.binds (ps := ["one", "other"]) fun _ _ _ _ _ _ us hl => match us, hl with | [_, _], _ => rfl
  have B13 := F13.binds (ps := ["chosen", "value", "sought"]) fun _ _ _ _ _ _ us hl => match us, hl with | [_, _, _], _ => rfl
  have B14 := F14.binds (ps := ["given", "answer", "spots", "sought"]) fun _ _ _ _ _ _ us hl => match us, hl with | [_, _, _, _], _ => rfl
  have B15 := F15.binds (ps := ["d"]) fun _ _ _ _ _ _ us hl => match us, hl with | [_], _ => rfl
  refine ⟨PySem.W.fnOf "law" "law" (defArgs s_law) (defBody s_law) (defScope s_law) .none kV16 dc16 pm16 an16 cd16 ct16, fun s v => .of_eq rfl, fun base _ _ => ?_⟩
  have C_probe_values : Callee l.prog w K mg base 1 "probe_values" 2 m_probe_values := ⟨_, _, _, ok_probe_values mz_sorted mz_set mz_len mz_range mz_tuple mz_enumerate mc_FAR F0, PySem.W.mg_of X G a0, F0.kp, B0⟩
  have C_L_begin : Callee l.prog w K mg base 1 "_law_begin" 1 m_L_begin := ⟨_, _, _, ok_L_begin mz_int F1, PySem.W.mg_of X G a1, F1.kp, B1⟩
  have C_L_draw : Callee l.prog w K mg base 1 "_law_draw" 2 m_L_draw := ⟨_, _, _, ok_L_draw mz_int mz_len mz_abs F2, PySem.W.mg_of X G a2, F2.kp, B2⟩
  have C_L_pick : Callee l.prog w K mg base 2 "_law_pick" 2 m_L_pick := ⟨_, _, _, ok_L_pick C_L_draw mz_len F3, PySem.W.mg_of X G a3, F3.kp, B3⟩
  have C_L_is_int : Callee l.prog w K mg base 1 "_law_is_int" 1 m_L_is_int := ⟨_, _, _, ok_L_is_int mz_isinstance mz_int mz_bool F4, PySem.W.mg_of X G a4, F4.kp, B4⟩
  have C_L_is_ints : Callee l.prog w K mg base 2 "_law_is_ints" 1 m_L_is_ints := ⟨_, _, _, ok_L_is_ints C_L_is_int mz_isinstance mz_tuple mz_all F5, PySem.W.mg_of X G a5, F5.kp, B5⟩
  have C_L_far : Callee l.prog w K mg base 2 "_law_far" 1 m_L_far := ⟨_, _, _, ok_L_far C_L_draw F6, PySem.W.mg_of X G a6, F6.kp, B6⟩
  have C_L_within : Callee l.prog w K mg base 1 "_law_within" 1 m_L_within := ⟨_, _, _, ok_L_within mz_min mz_max F7, PySem.W.mg_of X G a7, F7.kp, B7⟩
  have C_L_given : Callee l.prog w K mg base 3 "_law_given" 1 m_L_given := ⟨_, _, _, ok_L_given C_L_draw C_L_within C_L_pick C_L_far mz_range mz_len mz_tuple F8, PySem.W.mg_of X G a8, F8.kp, B8⟩
  have C_L_unknown : Callee l.prog w K mg base 3 "_law_unknown" 2 m_L_unknown := ⟨_, _, _, ok_L_unknown C_L_draw C_L_within C_L_pick C_L_far mz_len F9, PySem.W.mg_of X G a9, F9.kp, B9⟩
  have C_L_own_values : Callee l.prog w K mg base 1 "_law_own_values" 2 m_L_own_values := ⟨_, _, _, ok_L_own_values mz_len mz_range mz_list mz_min mz_sorted mz_set F10, PySem.W.mg_of X G a10, F10.kp, B10⟩
  have C_L_spot : Callee l.prog w K mg base 1 "_law_spot" 2 m_L_spot := ⟨_, _, _, ok_L_spot mz_len F11, PySem.W.mg_of X G a11, F11.kp, B11⟩
  have C_L_sign : Callee l.prog w K mg base 1 "_law_sign" 2 m_L_sign := ⟨_, _, _, ok_L_sign mz_int F12, PySem.W.mg_of X G a12, F12.kp, B12⟩
  have C_L_is_like : Callee l.prog w K mg base 2 "_law_is_like" 3 m_L_is_like := ⟨_, _, _, ok_L_is_like C_L_sign mz_len mz_range mz_all F13, PySem.W.mg_of X G a13, F13.kp, B13⟩
  have C_L_has_order : Callee l.prog w K mg base 3 "_law_has_order" 4 m_L_has_order := ⟨_, _, _, ok_L_has_order C_L_spot C_L_is_like mz_len mz_range F14, PySem.W.mg_of X G a14, F14.kp, B14⟩
  have C_L_lot : Callee l.prog w K mg base 4 "_law_lot" 1 m_L_lot := ⟨_, _, _, ok_L_lot C_L_given C_L_draw C_L_unknown mz_range mz_min F15, PySem.W.mg_of X G a15, F15.kp, B15⟩
  exact ok_law C_L_begin C_L_lot C_probe_values C_L_is_ints C_L_own_values C_L_spot C_L_has_order mz_list F16
end
end K60
open PySem PySem.W PyProof.Rows
set_option maxHeartbeats 0 in
theorem PySem.Challenge.cw_standingasks_k60_probe_values_holds : PySem.Challenge.rw_standingasks_k60_probe_values.Holds := by
  w_on; o_law; k_head; (case hw => w_witness2)
  k_fill
  refine L2.walk_of (l := PySem.Challenge.rw_standingasks_k60_probe_values) (n := 63) (k := 5) (x := "script") (CX := fun _ => L2.CX0) (sp := fun w => PV.spD _ 1 K60.m_law) rfl (by decide) rfl ⟨rfl, by decide, by decide⟩ (fun w h Y => PySem.W.kIn_of Y) ?F (fun w H a ns hl _ hS => PV.law_in K60.law_true hl hS) (fun _ _ _ _ _ h => h)
  case F =>
    intro w mg fa h KX G hmg
    refine' K60.all_mk KX G hmg ?a0 ?l0 ?c0 ?k0 ?a1 ?l1 ?c1 ?k1 ?a2 ?l2 ?c2 ?k2 ?a3 ?l3 ?c3 ?k3 ?a4 ?l4 ?c4 ?k4 ?a5 ?l5 ?c5 ?k5 ?a6 ?l6 ?c6 ?k6 ?a7 ?l7 ?c7 ?k7 ?a8 ?l8 ?c8 ?k8 ?a9 ?l9 ?c9 ?k9 ?a10 ?l10 ?c10 ?k10 ?a11 ?l11 ?c11 ?k11 ?a12 ?l12 ?c12 ?k12 ?a13 ?l13 ?c13 ?k13 ?a14 ?l14 ?c14 ?k14 ?a15 ?l15 ?c15 ?k15 ?a16 ?l16 ?c16 ?k16 ?z_abs ?z_all ?z_bool ?z_enumerate ?z_int ?z_isinstance ?z_len ?z_list ?z_max ?z_min ?z_range ?z_set ?z_sorted ?z_tuple ?v_FAR
    (case a0 => k_is); (case l0 => k_is); (case c0 => k_is); (case k0 => k_is); (case a1 => k_is); (case l1 => k_is); (case c1 => k_is); (case k1 => k_is); (case a2 => k_is); (case l2 => k_is); (case c2 => k_is); (case k2 => k_is); (case a3 => k_is); (case l3 => k_is); (case c3 => k_is); (case k3 => k_is); (case a4 => k_is); (case l4 => k_is); (case c4 => k_is); (case k4 => k_is); (case a5 => k_is); (case l5 => k_is); (case c5 => k_is); (case k5 => k_is); (case a6 => k_is); (case l6 => k_is); (case c6 => k_is); (case k6 => k_is); (case a7 => k_is); (case l7 => k_is); (case c7 => k_is); (case k7 => k_is); (case a8 => k_is); (case l8 => k_is); (case c8 => k_is); (case k8 => k_is); (case a9 => k_is); (case l9 => k_is); (case c9 => k_is); (case k9 => k_is); (case a10 => k_is); (case l10 => k_is); (case c10 => k_is); (case k10 => k_is); (case a11 => k_is); (case l11 => k_is); (case c11 => k_is); (case k11 => k_is); (case a12 => k_is); (case l12 => k_is); (case c12 => k_is); (case k12 => k_is); (case a13 => k_is); (case l13 => k_is); (case c13 => k_is); (case k13 => k_is); (case a14 => k_is); (case l14 => k_is); (case c14 => k_is); (case k14 => k_is); (case a15 => k_is); (case l15 => k_is); (case c15 => k_is); (case k15 => k_is); (case a16 => k_is); (case l16 => k_is); (case c16 => k_is); (case k16 => k_is); (case z_abs => k_is); (case z_all => k_is); (case z_bool => k_is); (case z_enumerate => k_is); (case z_int => k_is); (case z_isinstance => k_is); (case z_len => k_is); (case z_list => k_is); (case z_max => k_is); (case z_min => k_is); (case z_range => k_is); (case z_set => k_is); (case z_sorted => k_is); (case z_tuple => k_is); (case v_FAR => k_is)
