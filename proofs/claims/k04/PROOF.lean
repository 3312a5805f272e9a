import PyProof.Rows.All
import Wide.All
import OpenK.AllK
import Wide.FinOn
import HandS.ForMost
import HandS.TupAny
import HandS.TupMul
import HandS.Style
import HandS.NoneIn
import HandS.IsInst
import HandS.RaiseMore
import HandS.Ends
import PySem.Challenge.RW_livesalike_k04_blocks_put_together
set_option Elab.async false
set_option linter.all false
set_option maxRecDepth 100000
set_option maxHeartbeats 4000000
/-! the data layer: values as plain data over the hand layer; owned lists -/
namespace Dv
open PySem PySem.Spec PyProof.Rows L2

abbrev PD := PyData
inductive Slo where
  | un | val (d : PD) | own (p : Option Nat) (ds : List PD)
abbrev DEn := List Slo

/-- a list as it is held, or an exact one of the written part -/
def LsR (K : PySem.W.Frag) (F : Hp) (a : Addr) (xs : List V) : Prop := Rd F a (.lst xs) ∨ ∃ (its : List Value) (n : Nat), K.lookup a = some { cls := .type "list", data := .seq its.toArray n } ∧ xs.length ≤ sizeLine ∧ Vals xs its
theorem LsR.of {K : PySem.W.Frag} {F : Hp} {a : Addr} {xs : List V} (h : F a = some (.lst xs)) : LsR K F a xs := .inl (.inl h)
theorem LsR.sq {K : PySem.W.Frag} {F : Hp} {a : Addr} {xs : List V} (h : LsR K F a xs) : SqL K F a xs := h.imp id fun ⟨its, n, e, z, r⟩ => ⟨_, its.toArray, n, e, rfl, rfl, rfl, by rw [List.size_toArray, ← r.length]; exact z, r⟩
theorem LsR.exact {X : Cx} {pins : List (Addr × Obj)} {σ : L2.St} {H : Hp} {s : Shared} {a : Addr} {xs : List V} (h : LsR X.K H a xs) (I : Inv X pins σ H s) : xs.length ≤ sizeLine ∧ ∃ (its : List Value) (n : Nat), Vals xs its ∧ s.heap.get? a = some { cls := .type "list", data := .seq its.toArray n } := by
  rcases h with h | ⟨its, n, e, z, r⟩
  · obtain ⟨z, its, n, r, e⟩ := h.ok I.hok
    exact ⟨z, its, n, r, e⟩
  · exact ⟨z, its, n, r, I.kIn a _ e⟩
mutual
/-- a value as data: lists as they are held, tuples held or written -/
inductive Rp (K : PySem.W.Frag) (F : Hp) : V → PD → Prop
  | non : Rp K F .non .none
  | bl (b : Bool) : Rp K F (.bl b) (.bool b)
  | int (i : Int) : Rp K F (.int i) (.int i)
  | str (x : Str) : Rp K F (.str x) (.str x)
  | lst {a : Addr} {xs : List V} {ds : List PD} : LsR K F a xs → RpAll K F xs ds → Rp K F (.ref a) (.list ds)
  | tup {a : Addr} {xs : List V} {ds : List PD} : SqT K F a xs → RpAll K F xs ds → Rp K F (.ref a) (.tuple ds)
inductive RpAll (K : PySem.W.Frag) (F : Hp) : List V → List PD → Prop
  | nil : RpAll K F [] []
  | cons {v : V} {vs : List V} {d : PD} {ds : List PD} : Rp K F v d → RpAll K F vs ds → RpAll K F (v :: vs) (d :: ds)
end
section
variable {K : PySem.W.Frag}
theorem rd_mono {F F' : Hp} (h : Same F F') {a : Addr} {u : HO} (q : Rd F a u) : Rd F' a u := q.elim (fun q => .inl (h _ _ q)) fun ⟨o, q⟩ => .inr ⟨o, h _ _ q⟩
theorem ls_mono {F F' : Hp} (h : Same F F') {a : Addr} {xs : List V} (q : LsR K F a xs) : LsR K F' a xs := q.imp (rd_mono h) id
theorem sqt_mono {F F' : Hp} (h : Same F F') {a : Addr} {xs : List V} (q : SqT K F a xs) : SqT K F' a xs := by
  rcases q with (q | ⟨o, q⟩) | q
  · exact .inl (.inl (h _ _ q))
  · exact .inl (.inr ⟨o, h _ _ q⟩)
  · exact .inr q
mutual
theorem rp_mono {F F' : Hp} (h : Same F F') : ∀ (d : PD) (v : V), Rp K F v d → Rp K F' v d
  | .none, _, q => by cases q; exact .non
  | .bool b, _, q => by cases q; exact .bl b
  | .int i, _, q => by cases q; exact .int i
  | .str x, _, q => by cases q; exact .str x
  | .list ds, _, q => by
    cases q with
    | lst hs ha => exact .lst (ls_mono h hs) (rpAll_mono h ds _ ha)
  | .tuple ds, _, q => by
    cases q with
    | tup hs ha => exact .tup (sqt_mono h hs) (rpAll_mono h ds _ ha)
  | .dict _, _, q => by cases q
theorem rpAll_mono {F F' : Hp} (h : Same F F') : ∀ (ds : List PD) (vs : List V), RpAll K F vs ds → RpAll K F' vs ds
  | [], _, q => by cases q; exact .nil
  | d :: ds, _, q => by
    cases q with
    | cons h1 h2 => exact .cons (rp_mono h d _ h1) (rpAll_mono h ds _ h2)
end
theorem rpAll_len {F : Hp} : ∀ {vs : List V} {ds : List PD}, RpAll K F vs ds → vs.length = ds.length
  | _, _, .nil => rfl
  | _, _, .cons _ t => by rw [List.length_cons, List.length_cons, rpAll_len t]
theorem rpAll_get {F : Hp} : ∀ {vs : List V} {ds : List PD} {i : Nat} {d : PD}, RpAll K F vs ds → ds[i]? = some d → ∃ v, vs[i]? = some v ∧ Rp K F v d
  | _, _, _, _, .nil, e => by simp at e
  | _, _, 0, _, .cons q _, e => by simp at e; subst e; exact ⟨_, rfl, q⟩
  | _, _, i + 1, _, .cons _ t, e => by
    obtain ⟨v, h1, h2⟩ := rpAll_get (i := i) t (by simpa using e)
    exact ⟨v, by simpa using h1, h2⟩
theorem rpAll_get' {F : Hp} : ∀ {vs : List V} {ds : List PD} {i : Nat} {v : V}, RpAll K F vs ds → vs[i]? = some v → ∃ d, ds[i]? = some d ∧ Rp K F v d
  | _, _, _, _, .nil, e => by simp at e
  | _, _, 0, _, .cons q _, e => by simp at e; subst e; exact ⟨_, rfl, q⟩
  | _, _, i + 1, _, .cons _ t, e => by
    obtain ⟨v, h1, h2⟩ := rpAll_get' (i := i) t (by simpa using e)
    exact ⟨v, by simpa using h1, h2⟩
theorem rpAll_app {F : Hp} : ∀ {vs us : List V} {ds es : List PD}, RpAll K F vs ds → RpAll K F us es → RpAll K F (vs ++ us) (ds ++ es)
  | _, _, _, _, .nil, s => s
  | _, _, _, _, .cons q t, s => .cons q (rpAll_app t s)
theorem rpAll_take {F : Hp} : ∀ {vs : List V} {ds : List PD} (n : Nat), RpAll K F vs ds → RpAll K F (vs.take n) (ds.take n)
  | _, _, 0, _ => .nil
  | _, _, _ + 1, .nil => .nil
  | _, _, n + 1, .cons q t => .cons q (rpAll_take n t)
theorem rpAll_drop {F : Hp} : ∀ {vs : List V} {ds : List PD} (n : Nat), RpAll K F vs ds → RpAll K F (vs.drop n) (ds.drop n)
  | _, _, 0, q => q
  | _, _, _ + 1, .nil => .nil
  | _, _, n + 1, .cons _ t => rpAll_drop n t
theorem rpAll_set {F : Hp} {v : V} {d : PD} (q : Rp K F v d) : ∀ {vs : List V} {ds : List PD} (n : Nat), RpAll K F vs ds → RpAll K F (vs.set n v) (ds.set n d)
  | _, _, _, .nil => .nil
  | _, _, 0, .cons _ t => .cons q t
  | _, _, n + 1, .cons r t => .cons r (rpAll_set q n t)
theorem rpAll_dropLast {F : Hp} {vs : List V} {ds : List PD} (h : RpAll K F vs ds) : RpAll K F vs.dropLast ds.dropLast := by
  rw [List.dropLast_eq_take, List.dropLast_eq_take, rpAll_len h]
  exact rpAll_take _ h
theorem rpAll_rep {F : Hp} {vs : List V} {ds : List PD} (h : RpAll K F vs ds) : ∀ k : Nat, RpAll K F (List.replicate k vs).flatten (List.replicate k ds).flatten
  | 0 => .nil
  | k + 1 => by
    rw [List.replicate_succ, List.flatten_cons, List.replicate_succ, List.flatten_cons]
    exact rpAll_app h (rpAll_rep h k)
theorem rpAll_rev {F : Hp} {vs : List V} {ds : List PD} (h : RpAll K F vs ds) : RpAll K F vs.reverse ds.reverse := by
  induction vs generalizing ds with
  | nil => cases h; exact .nil
  | cons v vs ih =>
    cases h with
    | cons q t =>
      rw [List.reverse_cons, List.reverse_cons]
      exact rpAll_app (ih t) (.cons q .nil)
theorem rpAll_ints {F : Hp} : ∀ ns : List Int, RpAll K F (ns.map V.int) (ns.map PyData.int)
  | [] => .nil
  | n :: ns => .cons (.int n) (rpAll_ints ns)
theorem ints_of_dp {F : Hp} : ∀ {ns : List Int} {vs : List V}, RpAll K F vs (ns.map PyData.int) → vs = ns.map V.int
  | [], _, h => by cases h; rfl
  | n :: ns, _, h => by
    cases h with
    | cons q t =>
      cases q
      rw [List.map_cons, ints_of_dp t]

mutual
theorem rp_dp {F : Hp} : ∀ (d : PD) (v : V), Rp K F v d → Dp K F v d
  | .none, _, q => by cases q; exact .non
  | .bool b, _, q => by cases q; exact .bl b
  | .int i, _, q => by cases q; exact .int i
  | .str x, _, q => by cases q; exact .str x
  | .list ds, _, q => by
    cases q with
    | lst hs ha => exact .lst hs.sq (rpAll_dp ds _ ha)
  | .tuple ds, _, q => by
    cases q with
    | tup hs ha => exact .tup hs (rpAll_dp ds _ ha)
  | .dict _, _, q => by cases q
theorem rpAll_dp {F : Hp} : ∀ (ds : List PD) (vs : List V), RpAll K F vs ds → DpAll K F vs ds
  | [], _, q => by cases q; exact .nil
  | d :: ds, _, q => by
    cases q with
    | cons h1 h2 => exact .cons (rp_dp d _ h1) (rpAll_dp ds _ h2)
end

/-! ### results, environments -/
def RepS (K : PySem.W.Frag) (F H : Hp) (v : V) : Slo → Prop
  | .un => False
  | .val d => Rp K F v d
  | .own _ ds => ∃ a xs, v = .ref a ∧ H a = some (.lst xs) ∧ F a = none ∧ RpAll K F xs ds
def OwnA (ρ : DEn) (σ : L2.St) (b : Addr) : Prop := ∃ (i : Nat) (p : Option Nat) (ds : List PD), ρ[i]? = some (Slo.own p ds) ∧ σ[i]? = some (some (V.ref b))
def OwnV (r : Slo) (v : V) (b : Addr) : Prop := ∃ p ds, r = .own p ds ∧ v = .ref b
theorem ownV_val {d : PD} {v : V} {b : Addr} : ¬ OwnV (.val d) v b := fun ⟨_, _, e, _⟩ => nomatch e

structure ER (K : PySem.W.Frag) (α : Nat → Addr) (F H : Hp) (ρ : DEn) (σ : L2.St) : Prop where
  sub : Same F H
  len : ρ.length = σ.length
  val : ∀ (i : Nat) (d : PD), ρ[i]? = some (Slo.val d) → ∃ v, σ[i]? = some (some v) ∧ Rp K F v d
  own : ∀ (i : Nat) (p : Option Nat) (ds : List PD), ρ[i]? = some (Slo.own p ds) → ∃ (a : Addr) (xs : List V), σ[i]? = some (some (V.ref a)) ∧ H a = some (.lst xs) ∧ F a = none ∧ RpAll K F xs ds ∧ ∀ j, p = some j → a = α j
  inj : ∀ (i j : Nat) (p q : Option Nat) (ds es : List PD), i ≠ j → ρ[i]? = some (Slo.own p ds) → ρ[j]? = some (Slo.own q es) → σ[i]? ≠ σ[j]?

structure Stp (O O' : Addr → Prop) (F H F' H' : Hp) : Prop where
  ff : Same F F'
  keep : ∀ b o, H b = some o → ¬ O b → H' b = some o
  nof : ∀ b o, H b = some o → ¬ O b → F b = none → F' b = none
  oo : ∀ b, O' b → O b ∨ H b = none
  there : ∀ b o, H b = some o → ∃ o', H' b = some o'
theorem Stp.trans {O O1 O2 : Addr → Prop} {F H F1 H1 F2 H2 : Hp} (a : Stp O O1 F H F1 H1) (b : Stp O1 O2 F1 H1 F2 H2) : Stp O O2 F H F2 H2 where
  ff := a.ff.trans b.ff
  keep := fun c o e n => b.keep c o (a.keep c o e n) fun z => (a.oo c z).elim n fun q => by rw [e] at q; cases q
  nof := fun c o e n f => b.nof c o (a.keep c o e n) (fun z => (a.oo c z).elim n fun q => by rw [e] at q; cases q) (a.nof c o e n f)
  oo := fun c z => (b.oo c z).elim (a.oo c) fun q => .inr (by
    cases e : H c with
    | none => rfl
    | some o =>
      obtain ⟨o', e'⟩ := a.there c o e
      rw [q] at e'; cases e')
  there := fun c o e => by
    obtain ⟨o1, e1⟩ := a.there c o e
    exact b.there c o1 e1
theorem Stp.refl {O : Addr → Prop} {F H : Hp} : Stp O O F H F H :=
  ⟨Same.refl _, fun _ _ e _ => e, fun _ _ _ _ f => f, fun _ z => .inl z, fun _ o e => ⟨o, e⟩⟩
theorem Stp.mono {O O1 O' O1' : Addr → Prop} {F H F' H' : Hp} (a : Stp O O' F H F' H') (h : ∀ b, O b → O1 b) (h' : ∀ b, O1' b → O' b) : Stp O1 O1' F H F' H' :=
  ⟨a.ff, fun b o e n => a.keep b o e fun z => n (h b z), fun b o e n => a.nof b o e fun z => n (h b z), fun b z => (a.oo b (h' b z)).imp (h b) id, a.there⟩

theorem RepS.step {O O' : Addr → Prop} {F H F' H' : Hp} {v : V} {r : Slo} (h : RepS K F H v r) (n : ∀ b, OwnV r v b → ¬ O b) (s : Stp O O' F H F' H') : RepS K F' H' v r := by
  cases r with
  | un => exact h
  | val d => exact rp_mono s.ff d v h
  | own p ds =>
    obtain ⟨a, xs, e, e1, e2, q⟩ := h
    have na := n a ⟨p, ds, rfl, e⟩
    exact ⟨a, xs, e, s.keep a _ e1 na, s.nof a _ e1 na e2, rpAll_mono s.ff ds xs q⟩
theorem ER.grow {α : Nat → Addr} {F H F' H' : Hp} {ρ : DEn} {σ : L2.St} {O O' : Addr → Prop} (E : ER K α F H ρ σ) (s : Stp O O' F H F' H') (n : ∀ b, OwnA ρ σ b → ¬ O b) (sub : Same F' H') : ER K α F' H' ρ σ where
  sub := sub
  len := E.len
  val := fun i d e => by
    obtain ⟨v, h1, h2⟩ := E.val i d e
    exact ⟨v, h1, rp_mono s.ff d v h2⟩
  own := fun i p ds e => by
    obtain ⟨a, xs, h1, h2, h3, h4, h5⟩ := E.own i p ds e
    have na := n a ⟨i, p, ds, e, h1⟩
    exact ⟨a, xs, h1, s.keep a _ h2 na, s.nof a _ h2 na h3, rpAll_mono s.ff ds xs h4, h5⟩
  inj := E.inj

/-- behind an evaluation -/
structure Aft (K : PySem.W.Frag) (α : Nat → Addr) (O : Addr → Prop) (F H : Hp) (σ : L2.St) (ρ' : DEn) (r : Slo) (v : V) (F' H' : Hp) : Prop where
  er : ER K α F' H' ρ' σ
  rep : RepS K F' H' v r
  dist : ∀ b, OwnV r v b → ¬ OwnA ρ' σ b
  st : Stp O (fun b => OwnA ρ' σ b ∨ OwnV r v b) F H F' H'

/-- a value made, nothing else changed -/
structure Made (K : PySem.W.Frag) (F H : Hp) (r : Slo) (z : V) (F' H' : Hp) : Prop where
  sub : Same F' H'
  st : Stp (fun _ => False) (OwnV r z) F H F' H'
  rep : RepS K F' H' z r
theorem made_same {F H : Hp} {z : V} {d : PD} (s : Same F H) (q : Rp K F z d) : Made K F H (.val d) z F H :=
  ⟨s, ⟨Same.refl _, fun _ _ e _ => e, fun _ _ _ _ f => f, fun b z => absurd z ownV_val, fun _ o e => ⟨o, e⟩⟩, q⟩
theorem same_upd {H : Hp} {p : Addr} {o : HO} (h : H p = none) : Same H (upd H p o) := fun b x e => by
  rw [upd_ne (ne_of_none e h)]; exact e
theorem free_of {F H : Hp} (s : Same F H) {p : Addr} (h : H p = none) : F p = none := s.free h
theorem made_tup {F H : Hp} {p : Addr} {xs : List V} {ds : List PD} (s : Same F H) (hp : H p = none) (q : RpAll K F xs ds) : Made K F H (.val (.tuple ds)) (.ref p) (upd F p (.tup xs)) (upd H p (.tup xs)) := by
  have hf := free_of s hp
  refine ⟨fun b o e => ?_, ⟨same_upd hf, fun b o e _ => same_upd hp b o e, fun b o e _ f => ?_, fun b z => absurd z ownV_val, fun b o e => ⟨o, same_upd hp b o e⟩⟩, ?_⟩
  · by_cases c : b = p
    · subst c; rw [upd_same] at e ⊢; exact e
    · rw [upd_ne c] at e ⊢; exact s b o e
  · rw [upd_ne (ne_of_none e hp)]; exact f
  · exact .tup (.of upd_same) (rpAll_mono (same_upd hf) _ _ q)
theorem made_lst {F H : Hp} {p : Addr} {xs : List V} {ds : List PD} (s : Same F H) (hp : H p = none) (q : RpAll K F xs ds) : Made K F H (.own none ds) (.ref p) F (upd H p (.lst xs)) := by
  have hf := free_of s hp
  refine ⟨s.trans (same_upd hp), ⟨Same.refl _, fun b o e _ => same_upd hp b o e, fun b o e _ f => f, fun b z => ?_, fun b o e => ⟨o, same_upd hp b o e⟩⟩, ⟨p, xs, rfl, upd_same, hf, q⟩⟩
  obtain ⟨_, _, _, e⟩ := z
  injection e with e
  subst e
  exact .inr hp
theorem Aft.of_made {α : Nat → Addr} {F H F' H' : Hp} {ρ : DEn} {σ : L2.St} {r : Slo} {z : V} (E : ER K α F H ρ σ) (m : Made K F H r z F' H') : Aft K α (OwnA ρ σ) F H σ ρ r z F' H' := by
  have E' := E.grow m.st (fun _ _ z => z) m.sub
  refine ⟨E', m.rep, fun b z ⟨i, p, ds, e1, e2⟩ => ?_, m.st.ff, fun b o e _ => m.st.keep b o e fun z => z, fun b o e _ f => m.st.nof b o e (fun z => z) f, fun b z => z.imp id fun z => (m.st.oo b z).elim False.elim id, m.st.there⟩
  have h := (m.st.oo b z).elim False.elim id
  obtain ⟨a, xs, h1, h2, _⟩ := E.own i p ds e1
  rw [e2] at h1
  cases h1
  rw [h] at h2; cases h2
/-- two steps in a row -/
theorem Aft.after {α : Nat → Addr} {O : Addr → Prop} {F H F1 H1 F2 H2 : Hp} {σ : L2.St} {ρ1 ρ2 : DEn} {r : Slo} {v : V} (s : Stp O (OwnA ρ1 σ) F H F1 H1) (b : Aft K α (OwnA ρ1 σ) F1 H1 σ ρ2 r v F2 H2) : Aft K α O F H σ ρ2 r v F2 H2 :=
  ⟨b.er, b.rep, b.dist, s.trans b.st⟩

/-- a fresh list is frozen -/
def frz : Slo → Option PD
  | .un => none
  | .val d => some d
  | .own _ ds => some (.list ds)
theorem frz_aft {α : Nat → Addr} {O : Addr → Prop} {F H F' H' : Hp} {σ : L2.St} {ρ' : DEn} {r : Slo} {v : V} {d : PD} (A : Aft K α O F H σ ρ' r v F' H') (e : frz r = some d) :
    ∃ F'', Aft K α O F H σ ρ' (.val d) v F'' H' := by
  cases r with
  | un => cases e
  | val d' =>
    cases e
    exact ⟨F', A⟩
  | own p ds =>
    cases e
    obtain ⟨a, xs, rfl, e1, e2, q⟩ := A.rep
    have dist := A.dist a ⟨p, ds, rfl, rfl⟩
    have sub : Same (upd F' a (.lst xs)) H' := fun b o e => by
      by_cases c : b = a
      · subst c; rw [upd_same] at e; rw [← e]; exact e1
      · rw [upd_ne c] at e; exact A.er.sub b o e
    have ex : Same F' (upd F' a (.lst xs)) := same_upd e2
    refine ⟨upd F' a (.lst xs), ⟨sub, A.er.len, fun i d h => ?_, fun i p ds h => ?_, A.er.inj⟩, .lst (.of upd_same) (rpAll_mono ex _ _ q), fun b z => absurd z ownV_val, A.st.ff.trans ex, A.st.keep, fun b o h1 h2 h3 => ?_, fun b z => ?_, A.st.there⟩
    · obtain ⟨w, h1, h2⟩ := A.er.val i d h
      exact ⟨w, h1, rp_mono ex _ _ h2⟩
    · obtain ⟨c, ys, h1, h2, h3, h4, h5⟩ := A.er.own i p ds h
      refine ⟨c, ys, h1, h2, ?_, rpAll_mono ex _ _ h4, h5⟩
      rw [upd_ne]
      · exact h3
      · rintro rfl
        exact dist ⟨i, p, ds, h, h1⟩
    · have h4 := A.st.nof b o h1 h2 h3
      rw [upd_ne]
      · exact h4
      · rintro rfl
        rcases A.st.oo b (.inr ⟨p, ds, rfl, rfl⟩) with z | z
        · exact h2 z
        · rw [h1] at z; cases z
    · rcases z with z | z
      · exact A.st.oo b (.inl z)
      · exact absurd z ownV_val

/-- what a value is, read at once -/
def Vp (K : PySem.W.Frag) (F H : Hp) (v : V) (d : PD) : Prop := Rp K F v d ∨ ∃ a xs ds, v = .ref a ∧ d = .list ds ∧ H a = some (.lst xs) ∧ RpAll K F xs ds
theorem Vp.list {F H : Hp} (s : Same F H) {v : V} {ds : List PD} (h : Vp K F H v (.list ds)) : ∃ a xs, v = .ref a ∧ LsR K H a xs ∧ RpAll K F xs ds := by
  rcases h with h | ⟨a, xs, es, rfl, e, h1, h2⟩
  · cases h with
    | lst h1 h2 => exact ⟨_, _, rfl, ls_mono s h1, h2⟩
  · cases e
    exact ⟨a, xs, rfl, .of h1, h2⟩
theorem Vp.tuple {F H : Hp} (s : Same F H) {v : V} {ds : List PD} (h : Vp K F H v (.tuple ds)) : ∃ a xs, v = .ref a ∧ SqT K H a xs ∧ RpAll K F xs ds := by
  rcases h with h | ⟨a, xs, es, rfl, e, h1, h2⟩
  · cases h with
    | tup h1 h2 => exact ⟨_, _, rfl, sqt_mono s h1, h2⟩
  · cases e
theorem Vp.int {F H : Hp} {v : V} {i : Int} (h : Vp K F H v (.int i)) : v = .int i := by
  rcases h with h | ⟨a, xs, es, rfl, e, h1, h2⟩
  · cases h; rfl
  · cases e
theorem Vp.str {F H : Hp} {v : V} {i : Str} (h : Vp K F H v (.str i)) : v = .str i := by
  rcases h with h | ⟨a, xs, es, rfl, e, h1, h2⟩
  · cases h; rfl
  · cases e
theorem Vp.bl {F H : Hp} {v : V} {i : Bool} (h : Vp K F H v (.bool i)) : v = .bl i := by
  rcases h with h | ⟨a, xs, es, rfl, e, h1, h2⟩
  · cases h; rfl
  · cases e
theorem Vp.non {F H : Hp} {v : V} (h : Vp K F H v .none) : v = .non := by
  rcases h with h | ⟨a, xs, es, rfl, e, h1, h2⟩
  · cases h; rfl
  · cases e
theorem Vp.rp {F H : Hp} (s : Same F H) {v : V} {d : PD} (h : Vp K F H v d) : Rp K H v d := by
  rcases h with h | ⟨a, xs, es, rfl, rfl, h1, h2⟩
  · exact rp_mono s _ _ h
  · exact .lst (.of h1) (rpAll_mono s _ _ h2)
theorem Vp.dp {F H : Hp} (s : Same F H) {v : V} {d : PD} (h : Vp K F H v d) : Dp K H v d := rp_dp _ _ (h.rp s)
end
end Dv

set_option Elab.async false
set_option linter.all false
set_option maxRecDepth 100000
set_option maxHeartbeats 4000000
/-! the operations on data, and their rules -/
namespace Dv
open PySem PySem.Spec PyProof.Rows L2

inductive Bop where
  | add | sub | mul | div | mod | pow
  deriving DecidableEq, Repr
inductive Cop where
  | eq | ne | lt | le | gt | ge | is | isn | isin | nin
  deriving DecidableEq, Repr

/-- an operator on data -/
def bopD : Bop → PD → PD → Option Slo
  | .add, .int i, .int j => some (.val (.int (i + j)))
  | .add, .str x, .str y => if x.length + y.length ≤ sizeLine then some (.val (.str (x ++ y))) else none
  | .add, .tuple xs, .tuple ys => if xs.length + ys.length ≤ sizeLine then some (.val (.tuple (xs ++ ys))) else none
  | .add, .list xs, .list ys => if xs.length + ys.length ≤ sizeLine then some (.own none (xs ++ ys)) else none
  | .sub, .int i, .int j => some (.val (.int (i - j)))
  | .mul, .int i, .int j => if (-(2 ^ 64) < i ∧ i < 2 ^ 64) ∨ (-(2 ^ 64) < j ∧ j < 2 ^ 64) then some (.val (.int (i * j))) else none
  | .mul, .list xs, .int k => if -(2 ^ 63) ≤ k ∧ k < 2 ^ 63 ∧ xs.length * k.toNat ≤ sizeLine then some (.own none (List.replicate k.toNat xs).flatten) else none
  | .mul, .tuple xs, .int k => if xs ≠ [] ∧ 2 ≤ k ∧ k ≤ 1000 ∧ xs.length ≤ 1000 then some (.val (.tuple (List.replicate k.toNat xs).flatten)) else none
  | .div, .int i, .int j => if 0 < j ∧ j < 1073741824 then some (.val (.int (i / j))) else none
  | .mod, .int i, .int j => if 0 < j then some (.val (.int (i % j))) else none
  | .pow, .int i, .int j => if 0 ≤ j ∧ j ≤ 1000000 ∧ i.natAbs < 2 ^ 64 then some (.val (.int (i ^ j.toNat))) else none
  | _, _, _ => none

def scalD : PD → Bool
  | .none | .bool _ | .int _ | .str _ => true
  | _ => false
/-- == on data: what the rules tell of it -/
def eqD (d e : PD) : Option Bool := match d, e with
  | .int i, .int j => some (i == j)
  | .str x, .str y => some (x == y)
  | .bool a, .bool b => some (a == b)
  | .none, .none => some true
  | .none, .int _ | .int _, .none | .none, .str _ | .str _, .none | .none, .bool _ | .bool _, .none => some false
  | .int _, .str _ | .str _, .int _ | .bool _, .str _ | .str _, .bool _ => some false
  | d, e => if SeqAt.shaped d = true ∧ SeqAt.shaped e = true then some (PyData.eqv d e) else none
def allScal (ds : List PD) : Bool := ds.all scalD
def inD (d : PD) (ds : List PD) : Bool := ds.any fun e => PyData.eqv e d
def notB : Option Bool → Option Bool
  | some b => some (!b)
  | none => none
/-- a comparison on data -/
def copD : Cop → PD → PD → Option Bool
  | .eq, d, e => eqD d e
  | .ne, d, e => notB (eqD d e)
  | .lt, .int i, .int j => some (decide (i < j))
  | .le, .int i, .int j => some (decide (i ≤ j))
  | .gt, .int i, .int j => some (decide (j < i))
  | .ge, .int i, .int j => some (decide (j ≤ i))
  | .lt, .str i, .str j => some (decide (i.cps.toList < j.cps.toList))
  | .is, .none, .none => some true
  | .is, .bool _, .none | .is, .int _, .none | .is, .str _, .none | .is, .list _, .none | .is, .tuple _, .none => some false
  | .isn, .none, .none => some false
  | .isn, .bool _, .none | .isn, .int _, .none | .isn, .str _, .none | .isn, .list _, .none | .isn, .tuple _, .none => some true
  | .is, .bool a, .bool b => some (decide (a = b))
  | .isn, .bool a, .bool b => some (!decide (a = b))
  | .isin, d, .list ds => if scalD d = true ∧ allScal ds = true then some (inD d ds) else none
  | .nin, d, .list ds => if scalD d = true ∧ allScal ds = true then some (!inD d ds) else none
  | .isin, d, .tuple ds => if scalD d = true ∧ allScal ds = true then some (inD d ds) else none
  | .nin, d, .tuple ds => if scalD d = true ∧ allScal ds = true then some (!inD d ds) else none
  | .isin, .str x, .str y => some (!(Builtin.Str.occurrences y x 0 y.length 1).isEmpty)
  | .nin, .str x, .str y => some (!(!(Builtin.Str.occurrences y x 0 y.length 1).isEmpty))
  | _, _, _ => none

/-- a rule on two values, by their data -/
def OpD (X : Cx) (f : Value → Value → Sem Value) (g : PD → PD → Option Slo) : Prop :=
  ∀ (pins : List (Addr × Obj)) (s : Shared) (σ : L2.St) (H : Hp) (x y : V) (v u : Value) (Q : VK) (F : Hp) (d e : PD) (r : Slo), Inv X pins σ H s → RelV x v → RelV y u → Same F H → Vp X.K F H x d → Vp X.K F H y e → g d e = some r →
    (∀ z F' H', Made X.K F H r z F' H' → Q z H') → wpAny (model X.prog X.w) X.A (f v u) (EP X pins σ Q) X.xe s

section
variable {X : Cx}
theorem some_of_ite {α : Type} {c : Prop} [Decidable c] {a b : α} (h : (if c then some a else none) = some b) : c ∧ a = b := by
  by_cases hc : c
  · rw [if_pos hc] at h
    exact ⟨hc, Option.some.inj h⟩
  · rw [if_neg hc] at h; cases h

theorem opd_add : OpD X (binaryOp .Add) (bopD .add) := by
  intro pins s σ H x y v u Q F d e r I rx ry sm vd ve h q
  unfold bopD at h
  split at h <;> try (first | cases h; done | (rename_i hb; cases hb; done))
  · cases h
    rw [vd.int] at rx; rw [ve.int] at ry
    exact op_add pins s σ H _ _ v u Q I rx ry ⟨_, _, rfl, rfl, q _ _ _ (made_same sm (.int _))⟩
  · rename_i x1 y1 _
    obtain ⟨hc, rfl⟩ := some_of_ite h
    rw [vd.str] at rx; rw [ve.str] at ry
    exact op_add_str pins s σ H _ _ v u Q I rx ry ⟨_, _, rfl, rfl, hc, q _ _ _ (made_same sm (.str _))⟩
  · rename_i xs ys _
    obtain ⟨hc, rfl⟩ := some_of_ite h
    obtain ⟨a, vs, rfl, h1, h2⟩ := vd.tuple sm
    obtain ⟨b, us, rfl, h3, h4⟩ := ve.tuple sm
    have l1 := rpAll_len h2
    have l2 := rpAll_len h4
    refine op_catA pins s σ H _ _ v u Q I rx ry ⟨a, b, vs, us, rfl, rfl, h1, h3, by omega, fun z => ?_, fun _ z => ?_, fun _ _ p hp => q _ _ _ (made_tup sm hp (rpAll_app h2 h4))⟩
    · subst z; cases h2
      rcases ve with ve | ⟨_, _, _, _, e, _⟩
      · exact q _ _ _ (made_same sm ve)
      · cases e
    · subst z; cases h4
      rw [List.append_nil] at q
      rcases vd with vd | ⟨_, _, _, _, e, _⟩
      · exact q _ _ _ (made_same sm vd)
      · cases e
  · rename_i xs ys _
    obtain ⟨hc, rfl⟩ := some_of_ite h
    obtain ⟨a, vs, rfl, h1, h2⟩ := vd.list sm
    obtain ⟨b, us, rfl, h3, h4⟩ := ve.list sm
    have l1 := rpAll_len h2
    have l2 := rpAll_len h4
    cases rx
    cases ry
    obtain ⟨z1, its, n, r1, e1⟩ := h1.exact I
    obtain ⟨z2, its2, n2, r2, e2⟩ := h3.exact I
    have k1 := r1.length
    have k2 := r2.length
    refine PySem.P.add_list e1 e2 ?_ (by rw [List.size_toArray, List.size_toArray]; omega)
    rw [show its.toArray ++ its2.toArray = (its ++ its2).toArray by simp]
    exact ⟨.ref s.heap.objs.size, upd H s.heap.objs.size (.lst (vs ++ us)), I.lnew (t' := s.toks) (r1.append r2) (by rw [List.length_append]; omega), rfl, q _ _ _ (made_lst sm I.fresh (rpAll_app h2 h4))⟩
theorem opd_sub : OpD X (binaryOp .Sub) (bopD .sub) := by
  intro pins s σ H x y v u Q F d e r I rx ry sm vd ve h q
  unfold bopD at h
  split at h <;> try (first | cases h; done | (rename_i hb; cases hb; done))
  cases h
  rw [vd.int] at rx; rw [ve.int] at ry
  exact op_sub pins s σ H _ _ v u Q I rx ry ⟨_, _, rfl, rfl, q _ _ _ (made_same sm (.int _))⟩
theorem opd_div : OpD X (binaryOp .FloorDiv) (bopD .div) := by
  intro pins s σ H x y v u Q F d e r I rx ry sm vd ve h q
  unfold bopD at h
  split at h <;> try (first | cases h; done | (rename_i hb; cases hb; done))
  obtain ⟨hc, rfl⟩ := some_of_ite h
  rw [vd.int] at rx; rw [ve.int] at ry
  exact op_fdiv pins s σ H _ _ v u Q I rx ry ⟨_, _, rfl, rfl, hc, q _ _ _ (made_same sm (.int _))⟩
theorem opd_mod : OpD X (binaryOp .Mod) (bopD .mod) := by
  intro pins s σ H x y v u Q F d e r I rx ry sm vd ve h q
  unfold bopD at h
  split at h <;> try (first | cases h; done | (rename_i hb; cases hb; done))
  obtain ⟨hc, rfl⟩ := some_of_ite h
  rw [vd.int] at rx; rw [ve.int] at ry
  exact op_mod pins s σ H _ _ v u Q I rx ry ⟨_, _, rfl, rfl, hc, q _ _ _ (made_same sm (.int _))⟩
theorem opd_pow : OpD X (binaryOp .Pow) (bopD .pow) := by
  intro pins s σ H x y v u Q F d e r I rx ry sm vd ve h q
  unfold bopD at h
  split at h <;> try (first | cases h; done | (rename_i hb; cases hb; done))
  obtain ⟨hc, rfl⟩ := some_of_ite h
  rw [vd.int] at rx; rw [ve.int] at ry
  exact op_pow pins s σ H _ _ v u Q I rx ry ⟨_, _, rfl, rfl, hc, q _ _ _ (made_same sm (.int _))⟩
theorem opd_mul : OpD X (binaryOp .Mult) (bopD .mul) := by
  intro pins s σ H x y v u Q F d e r I rx ry sm vd ve h q
  unfold bopD at h
  split at h <;> try (first | cases h; done | (rename_i hb; cases hb; done))
  · obtain ⟨hc, rfl⟩ := some_of_ite h
    rw [vd.int] at rx; rw [ve.int] at ry
    exact op_mul pins s σ H _ _ v u Q I rx ry ⟨_, _, rfl, rfl, hc, q _ _ _ (made_same sm (.int _))⟩
  · rename_i xs k _
    obtain ⟨⟨h1, h2, h3⟩, rfl⟩ := some_of_ite h
    rw [ve.int] at ry
    obtain ⟨a, vs, rfl, r1, q1⟩ := vd.list sm
    have l1 := rpAll_len q1
    · cases rx
      obtain ⟨t, rfl⟩ := ry
      obtain ⟨z1, its, n, rv, e1⟩ := r1.exact I
      have k1 := rv.length
      have b1 : its.toArray.size * k.toNat ≤ sizeLine := by rw [List.size_toArray, ← k1, l1]; exact h3
      have b2 : ¬ its.toArray.size * k.toNat > (2 ^ 63 - 1) / 8 := fun z => by
        have z2 : (sizeLine : Nat) ≤ (2 ^ 63 - 1) / 8 := by decide
        omega
      have b3 : ¬ (!Builtin.List.listFitsIndex k) = true := by rw [fitsIndex_both h1 h2]; decide
      have b4 : ¬ Builtin.List.listTooLong (its.toArray.size * k.toNat) = true := by rw [notLongL b1]; decide
      have f1 : ∀ m : Nat, List.foldl (fun p q => p ++ q) #[] (List.replicate m its.toArray) = (List.replicate m its).flatten.toArray := fun m => (foldl_rep its m []).trans (by rw [List.nil_append])
      have f2 : List.foldl (fun p q => p ++ q) #[] (List.replicate (if its.toArray.isEmpty = true then 0 else k.toNat) its.toArray) = (List.replicate k.toNat its).flatten.toArray := by
        rw [f1]
        cases its with
        | nil => simp
        | cons c cs => rw [if_neg (by simp)]
      have tl : s.TypeIs (.ref a) "list" := ⟨_, e1, rfl⟩
      refine wpAny_binaryOp_repeat_ref (T := "list") (U := "int") (by decide) tl (fun s' => typeIs_int s' k t) noFill_list_mul PySem.F.fills_int_mul PySem.F.slot_int_rmul repeat_list PySem.F.slot_int_index.lookup ?_
      refine call_meets PySem.F.slot_int_rmul (typeIs_int s k t) PySem.F.entry_int_rmul (PySem.F.args_int_rmul_2 _ _) (int___rmul___int_list k t a its.toArray n) ⟨e1, rfl, ⟨_, e1, rfl⟩, ?_⟩
      refine call_meets PySem.F.slot_list_mul tl PySem.F.entry_list_mul (PySem.F.args_list_mul_2 _ _) (AutoListH.list___mul___list_int_3 a its.toArray n k t b3 b2 b4) ⟨e1, ?_⟩
      rw [f2]
      have b5 : (List.replicate k.toNat vs).flatten.length ≤ sizeLine := by rw [PyProof.Rows.lm_len_rep_flat, Nat.mul_comm, l1]; exact h3
      exact ⟨.ref s.heap.objs.size, upd H s.heap.objs.size (.lst (List.replicate k.toNat vs).flatten), I.lnew (t' := s.toks) (rv.rep k.toNat) b5, rfl, q _ _ _ (made_lst sm I.fresh (rpAll_rep q1 _))⟩
  · rename_i xs k _
    obtain ⟨⟨h1, h2, h3, h4⟩, rfl⟩ := some_of_ite h
    rw [ve.int] at ry
    obtain ⟨a, vs, rfl, r1, q1⟩ := vd.tuple sm
    have l1 := rpAll_len q1
    exact op_repT pins s σ H _ _ v u Q I rx ry ⟨a, k, vs, rfl, rfl, r1, fun z => h1 (by subst z; cases q1; rfl), h2, h3, by omega, fun p hp => q _ _ _ (made_tup sm hp (rpAll_rep q1 _))⟩

/-! ### comparisons -/
def CpD (X : Cx) (f : Value → Value → Sem Value) (g : PD → PD → Option Bool) : Prop :=
  ∀ (pins : List (Addr × Obj)) (s : Shared) (σ : L2.St) (H : Hp) (x y : V) (v u : Value) (Q : VK) (F : Hp) (d e : PD) (b : Bool), Inv X pins σ H s → RelV x v → RelV y u → Same F H → Vp X.K F H x d → Vp X.K F H y e → g d e = some b →
    Q (.bl b) H → wpAny (model X.prog X.w) X.A (f v u) (EP X pins σ Q) X.xe s
theorem dec_eq {α : Type} [DecidableEq α] (a b : α) : (a == b) = decide (a = b) := by
  by_cases h : a = b
  · subst h; simp
  · rw [decide_eq_false h]; exact beq_eq_false_iff_ne.mpr h
theorem cpd_eq (hu : X.A.units + 64 < cLine) : CpD X (compareOp .Eq) eqD := by
  intro pins s σ H x y v u Q F d e b I rx ry sm vd ve h q
  unfold eqD at h
  split at h
  case h_15 =>
    obtain ⟨⟨s1, s2⟩, rfl⟩ := some_of_ite h
    exact op_eqD hu pins s σ H x y v u Q I rx ry ⟨_, _, vd.dp sm, ve.dp sm, s1, s2, q⟩
  all_goals
    cases h
    (first | rw [vd.int] at rx | rw [vd.str] at rx | rw [vd.bl] at rx | rw [vd.non] at rx)
    (first | rw [ve.int] at ry | rw [ve.str] at ry | rw [ve.bl] at ry | rw [ve.non] at ry)
    refine op_eq pins s σ H _ _ v u Q I rx ry ⟨rfl, ?_⟩
    first
      | exact q
      | (rw [dec_int]; exact q)
      | (rw [dec_str]; exact q)
      | (rw [dec_bl]; exact q)
theorem not_some {o : Option Bool} {b : Bool} (h : notB o = some b) : o = some (!b) := by
  cases o with
  | none => cases h
  | some c => cases h; rw [Bool.not_not]
theorem cpd_ne (hu : X.A.units + 64 < cLine) : CpD X (compareOp .NotEq) (fun d e => notB (eqD d e)) := by
  intro pins s σ H x y v u Q F d e b I rx ry sm vd ve h q
  have h := not_some h
  unfold eqD at h
  split at h
  case h_15 =>
    obtain ⟨⟨s1, s2⟩, hb⟩ := some_of_ite h
    exact op_neD hu pins s σ H x y v u Q I rx ry ⟨_, _, vd.dp sm, ve.dp sm, s1, s2, by rw [hb, Bool.not_not]; exact q⟩
  all_goals
    have h := Option.some.inj h
    (first | rw [vd.int] at rx | rw [vd.str] at rx | rw [vd.bl] at rx | rw [vd.non] at rx)
    (first | rw [ve.int] at ry | rw [ve.str] at ry | rw [ve.bl] at ry | rw [ve.non] at ry)
    refine op_ne pins s σ H _ _ v u Q I rx ry ⟨rfl, ?_⟩
    first
      | (rw [dec_int, h, Bool.not_not]; exact q)
      | (rw [dec_str, h, Bool.not_not]; exact q)
      | (rw [dec_bl, h, Bool.not_not]; exact q)
      | (cases b <;> first | exact q | cases h)
theorem scal_flat {F H : Hp} {K : PySem.W.Frag} {v : V} {d : PD} (h : Vp K F H v d) (hs : scalD d = true) : flatV v = true := by
  cases d with
  | none => rw [h.non]; rfl
  | bool _ => rw [h.bl]; rfl
  | int _ => rw [h.int]; rfl
  | str _ => rw [h.str]; rfl
  | list _ => cases hs
  | tuple _ => cases hs
  | dict _ => cases hs
theorem scalAll_flat {F : Hp} {K : PySem.W.Frag} : ∀ {vs : List V} {ds : List PD}, RpAll K F vs ds → allScal ds = true → vs.all flatV = true
  | _, _, .nil, _ => rfl
  | _, _, .cons (v := v) (d := d) q t, h => by
    have h' : scalD d = true ∧ allScal _ = true := Bool.and_eq_true_iff.mp h
    rw [List.all_cons, scalAll_flat t h'.2, scal_flat (H := F) (.inl q) h'.1]; rfl
theorem eqV_eqv {F H F2 : Hp} {K : PySem.W.Frag} {v u : V} {d e : PD} (hv : Vp K F H v d) (hu : Rp K F2 u e) (hd : scalD d = true) (he : scalD e = true) : eqV u v = PyData.eqv e d := by
  cases d <;> (try cases hd) <;> cases hu <;> (try cases he) <;>
    (first | rw [hv.non] | rw [hv.bl] | rw [hv.int] | rw [hv.str]) <;> simp [eqV, PyData.eqv]
theorem inV_inD {F H F2 : Hp} {K : PySem.W.Frag} {v : V} {d : PD} (hv : Vp K F H v d) (hd : scalD d = true) : ∀ {us : List V} {es : List PD}, RpAll K F2 us es → allScal es = true → inV v us = inD d es
  | _, _, .nil, _ => rfl
  | _, _, .cons (v := u) (d := e) (vs := us) (ds := es) q t, h => by
    have h' : scalD e = true ∧ allScal es = true := Bool.and_eq_true_iff.mp h
    have ih := inV_inD hv hd t h'.2
    unfold inV inD at ih ⊢
    rw [List.any_cons, List.any_cons, ih, eqV_eqv hv q hd h'.1]
def inN (neg : Bool) (d : PD) (ds : List PD) : Bool := if neg = true then !inD d ds else inD d ds
def seqIn (neg : Bool) (d : PD) : PD → Option Bool
  | .list ds => if scalD d = true ∧ allScal ds = true then some (inN neg d ds) else none
  | .tuple ds => if scalD d = true ∧ allScal ds = true then some (inN neg d ds) else none
  | _ => none
theorem cpd_seq (neg : Bool) (op : CmpOp) (hr : OpR X (compareOp op) (rIn X.K neg)) : CpD X (compareOp op) (seqIn neg) := by
  intro pins s σ H x y v u Q F d e b I rx ry sm vd ve h q
  unfold seqIn at h
  split at h
  · obtain ⟨⟨s1, s2⟩, rfl⟩ := some_of_ite h
    obtain ⟨a, xs, rfl, h1, h2⟩ := ve.list sm
    refine hr pins s σ H _ _ v u Q I rx ry ⟨a, xs, rfl, .inl h1.sq, scal_flat vd s1, scalAll_flat h2 s2, ?_⟩
    rw [inV_inD vd s1 h2 s2]; exact q
  · obtain ⟨⟨s1, s2⟩, rfl⟩ := some_of_ite h
    obtain ⟨a, xs, rfl, h1, h2⟩ := ve.tuple sm
    refine hr pins s σ H _ _ v u Q I rx ry ⟨a, xs, rfl, .inr h1, scal_flat vd s1, scalAll_flat h2 s2, ?_⟩
    rw [inV_inD vd s1 h2 s2]; exact q
  · cases h
theorem cpd_int (op : CmpOp) (p : Int → Int → Bool) (hr : OpR X (compareOp op) (rI0 fun i j => .bl (p i j))) : CpD X (compareOp op) (fun d e => match d, e with
    | .int i, .int j => some (p i j) | _, _ => none) := by
  intro pins s σ H x y v u Q F d e b I rx ry sm vd ve h q
  dsimp only at h
  split at h
  · cases h
    rw [vd.int] at rx; rw [ve.int] at ry
    exact hr pins s σ H _ _ v u Q I rx ry ⟨_, _, rfl, rfl, q⟩
  · cases h
theorem CpD.ofEq {f : Value → Value → Sem Value} {g g' : PD → PD → Option Bool} (h : CpD X f g) (e : ∀ x y b, g' x y = some b → g x y = some b) : CpD X f g' :=
  fun pins s σ H x y v u Q F d e' b I rx ry sm vd ve k q => h pins s σ H x y v u Q F d e' b I rx ry sm vd ve (e _ _ _ k) q
theorem CpD.two {f : Value → Value → Sem Value} {g1 g2 g' : PD → PD → Option Bool} (h1 : CpD X f g1) (h2 : CpD X f g2) (e : ∀ x y b, g' x y = some b → g1 x y = some b ∨ g2 x y = some b) : CpD X f g' :=
  fun pins s σ H x y v u Q F d e' b I rx ry sm vd ve k q => (e _ _ _ k).elim (fun k => h1 pins s σ H x y v u Q F d e' b I rx ry sm vd ve k q) fun k => h2 pins s σ H x y v u Q F d e' b I rx ry sm vd ve k q
theorem cpd_lt : CpD X (compareOp .Lt) (copD .lt) := by
  intro pins s σ H x y v u Q F d e b I rx ry sm vd ve h q
  unfold copD at h
  split at h <;> try (first | cases h; done | (rename_i hb; cases hb; done))
  · cases h
    rw [vd.int] at rx; rw [ve.int] at ry
    exact op_lt pins s σ H _ _ v u Q I rx ry ⟨_, _, rfl, rfl, q⟩
  · cases h
    rw [vd.str] at rx; rw [ve.str] at ry
    exact op_lt_str pins s σ H _ _ v u Q I rx ry ⟨_, _, rfl, rfl, q⟩
theorem cpd_le : CpD X (compareOp .LtE) (copD .le) := by
  intro pins s σ H x y v u Q F d e b I rx ry sm vd ve h q
  unfold copD at h
  split at h <;> try (first | cases h; done | (rename_i hb; cases hb; done))
  cases h
  rw [vd.int] at rx; rw [ve.int] at ry
  exact op_le pins s σ H _ _ v u Q I rx ry ⟨_, _, rfl, rfl, q⟩
theorem cpd_gt : CpD X (compareOp .Gt) (copD .gt) := by
  intro pins s σ H x y v u Q F d e b I rx ry sm vd ve h q
  unfold copD at h
  split at h <;> try (first | cases h; done | (rename_i hb; cases hb; done))
  cases h
  rw [vd.int] at rx; rw [ve.int] at ry
  exact op_gt pins s σ H _ _ v u Q I rx ry ⟨_, _, rfl, rfl, q⟩
theorem cpd_ge : CpD X (compareOp .GtE) (copD .ge) := by
  intro pins s σ H x y v u Q F d e b I rx ry sm vd ve h q
  unfold copD at h
  split at h <;> try (first | cases h; done | (rename_i hb; cases hb; done))
  cases h
  rw [vd.int] at rx; rw [ve.int] at ry
  exact op_ge pins s σ H _ _ v u Q I rx ry ⟨_, _, rfl, rfl, q⟩
theorem Vp.nn {F H : Hp} {K : PySem.W.Frag} {v : V} {d : PD} (h : Vp K F H v d) (hd : d ≠ .none) : v ≠ .non := by
  rintro rfl
  rcases h with h | ⟨a, xs, es, e, _⟩
  · cases h; exact hd rfl
  · cases e
theorem cpd_is : CpD X (compareOp .Is) (copD .is) := by
  intro pins s σ H x y v u Q F d e b I rx ry sm vd ve h q
  unfold copD at h
  split at h <;> try (first | cases h; done | (rename_i hb; cases hb; done))
  all_goals
    cases h
    first
      | (rw [vd.bl] at rx; rw [ve.bl] at ry
         exact op_isBl pins s σ H _ _ v u Q I rx ry ⟨_, _, rfl, rfl, q⟩)
      | (rw [ve.non] at ry
         refine op_isN pins s σ H _ _ v u Q I rx ry ⟨rfl, ?_⟩
         first
           | (rw [vd.non]; exact q)
           | (rw [decide_eq_false (vd.nn (fun z => nomatch z))]; exact q))
theorem cpd_isn : CpD X (compareOp .IsNot) (copD .isn) := by
  intro pins s σ H x y v u Q F d e b I rx ry sm vd ve h q
  unfold copD at h
  split at h <;> try (first | cases h; done | (rename_i hb; cases hb; done))
  all_goals
    cases h
    first
      | (rw [vd.bl] at rx; rw [ve.bl] at ry
         exact op_notBl pins s σ H _ _ v u Q I rx ry ⟨_, _, rfl, rfl, q⟩)
      | (rw [ve.non] at ry
         refine op_notN pins s σ H _ _ v u Q I rx ry ⟨rfl, ?_⟩
         first
           | (rw [vd.non]; exact q)
           | (rw [decide_eq_false (vd.nn (fun z => nomatch z))]; exact q))
theorem cpd_in : CpD X (compareOp .In) (copD .isin) := by
  intro pins s σ H x y v u Q F d e b I rx ry sm vd ve h q
  unfold copD at h
  split at h <;> try (first | cases h; done | (rename_i hb; cases hb; done))
  · exact cpd_seq false .In op_in_seq pins s σ H x y v u Q F _ _ b I rx ry sm vd ve h q
  · exact cpd_seq false .In op_in_seq pins s σ H x y v u Q F _ _ b I rx ry sm vd ve h q
  · cases h
    rw [vd.str] at rx; rw [ve.str] at ry
    exact op_in_str pins s σ H _ _ v u Q I rx ry ⟨_, _, rfl, rfl, q⟩
theorem cpd_nin : CpD X (compareOp .NotIn) (copD .nin) := by
  intro pins s σ H x y v u Q F d e b I rx ry sm vd ve h q
  unfold copD at h
  split at h <;> try (first | cases h; done | (rename_i hb; cases hb; done))
  · exact cpd_seq true .NotIn op_notIn_seq pins s σ H x y v u Q F _ _ b I rx ry sm vd ve h q
  · exact cpd_seq true .NotIn op_notIn_seq pins s σ H x y v u Q F _ _ b I rx ry sm vd ve h q
  · cases h
    rw [vd.str] at rx; rw [ve.str] at ry
    exact op_notin_str pins s σ H _ _ v u Q I rx ry ⟨_, _, rfl, rfl, q⟩
/-- the operators of the text -/
def copOf : CmpOp → Option Cop
  | .Eq => some .eq | .NotEq => some .ne | .Lt => some .lt | .LtE => some .le | .Gt => some .gt | .GtE => some .ge
  | .Is => some .is | .IsNot => some .isn | .In => some .isin | .NotIn => some .nin
def bopOf : Operator → Option Bop
  | .Add => some .add | .Sub => some .sub | .Mult => some .mul | .FloorDiv => some .div | .Mod => some .mod | .Pow => some .pow
  | _ => none
theorem cpd_of {op : CmpOp} {o : Cop} (h : copOf op = some o) (hu : X.A.units + 64 < cLine) : CpD X (compareOp op) (copD o) := by
  cases op <;> (cases h) <;> first
    | exact cpd_eq hu | exact cpd_ne hu | exact cpd_lt | exact cpd_le | exact cpd_gt | exact cpd_ge | exact cpd_is | exact cpd_isn | exact cpd_in | exact cpd_nin
theorem opd_of {op : Operator} {o : Bop} (h : bopOf op = some o) : OpD X (binaryOp op) (bopD o) := by
  cases op <;> (cases h) <;> first
    | exact opd_add | exact opd_sub | exact opd_mul | exact opd_div | exact opd_mod | exact opd_pow
end
end Dv

set_option Elab.async false
set_option linter.all false
set_option maxRecDepth 100000
set_option maxHeartbeats 4000000
/-! the small language of the walk, its value -/
namespace Dv
open PySem PySem.Spec PyProof.Rows L2

inductive Pr where
  | len | int | str | abs | tuple | list | max | min | sum | all | repr | sorted
  deriving DecidableEq, Repr
inductive Ty where
  | int | str | bool | tuple | list
  deriving DecidableEq, Repr
inductive Ir where
  | var (i : Nat) | lend (i : Nat) | non | bl (b : Bool) | int (i : Int) | str (s : Str) | glb (g : Nat)
  | bin (o : Bop) (a b : Ir) | neg (a : Ir) | not (a : Ir)
  | cmp (o : Cop) (a b : Ir) | chain (o p : Cop) (a b c : Ir)
  | and (a b : Ir) | or (a b : Ir) | ife (c a b : Ir)
  | sub (a b : Ir) | slc (a lo hi : Ir) | rev (a : Ir)
  | tup (es : Ir) | lst (es : Ir)
  | call (f : Nat) (es : Ir) | prim (p : Pr) (es : Ir) | isi (ts : List Ty) (a : Ir)
  | comp (t it c e : Ir) (vs : List Nat)
  | rng1 (a : Ir) | rng2 (a b : Ir)
  | app (i : Nat) (e : Ir) | ext (i : Nat) (e : Ir) | pop (i : Nat)
  | nil | cons (a b : Ir)
  | set (i : Nat) (keep : Bool) (e : Ir) | unp (t e : Ir) | sti (i : Nat) (ix e : Ir) | ex (e : Ir)
  | ifs (c a b : Ir) | whl (c b : Ir) | fors (t it b : Ir) | ret (e : Ir) | brk | cnt | pas
  deriving DecidableEq, Repr

/-- an operand: a name's slot, read when the operation is done, or a value -/
inductive Opd where
  | slot (i : Nat) | res (r : Slo)
def rdS : Option Slo → Option PD
  | some (.val d) => some d
  | some (.own _ ds) => some (.list ds)
  | _ => none
def rdO (ρ : DEn) : Opd → Option PD
  | .slot i => rdS ρ[i]?
  | .res r => rdS (some r)
def rdAll (ρ : DEn) : List Opd → Option (List PD)
  | [] => some []
  | x :: xs => match rdO ρ x, rdAll ρ xs with
    | some d, some ds => some (d :: ds)
    | _, _ => none

/-- data's parts -/
def subD : PD → PD → Option PD
  | .list ds, .int i => atI ds i
  | .tuple ds, .int i => atI ds i
  | .str z, .int i => if z.length ≤ sizeLine then (atI z.cps.toList i).map fun c => .str ⟨#[c]⟩ else none
  | _, _ => none
def cutD (ds : List PD) (lo hi : Option Int) : List PD := (ds.drop (HT.sIx ds.length 0 lo)).take (HT.sIx ds.length ds.length hi - HT.sIx ds.length 0 lo)
def slD : PD → Option Int → Option Int → Option Slo
  | .list ds, lo, hi => some (.own none (cutD ds lo hi))
  | .tuple ds, lo, hi => some (.val (.tuple (cutD ds lo hi)))
  | _, _, _ => none
def intsOf : List PD → Option (List Int)
  | [] => some []
  | .int i :: r => (intsOf r).map fun l => i :: l
  | _ => none
def boolsOf : List PD → Option (List Bool)
  | [] => some []
  | .bool b :: r => (boolsOf r).map fun l => b :: l
  | _ => none
def prD : Pr → List PD → Option Slo
  | .len, [.list ds] => some (.val (.int ds.length))
  | .len, [.tuple ds] => some (.val (.int ds.length))
  | .len, [.str z] => if z.length ≤ sizeLine then some (.val (.int z.length)) else none
  | .int, [.int i] => some (.val (.int i))
  | .int, [.bool b] => some (.val (.int (if b then 1 else 0)))
  | .str, [.int i] => if i.natAbs.log2 < 1920 then some (.val (.str (toString i))) else none
  | .str, [.str a] => some (.val (.str a))
  | .abs, [.int i] => some (.val (.int (if i < 0 then -i else i)))
  | .tuple, [.list ds] => some (.val (.tuple ds))
  | .tuple, [.tuple ds] => some (.val (.tuple ds))
  | .list, [.list ds] => some (.own none ds)
  | .list, [.tuple ds] => some (.own none ds)
  | .max, [.int i, .int j] => some (.val (.int (if j > i then j else i)))
  | .min, [.int i, .int j] => some (.val (.int (if j < i then j else i)))
  | .sum, [.list ds] => (intsOf ds).map fun ns => .val (.int ns.sum)
  | .all, [.list ds] => (boolsOf ds).map fun bs => .val (.bool (bs.all id))
  | .repr, [d] => if d.showable = true ∧ d.hasDict = false ∧ d.shown.length ≤ sizeLine ∧ d.depth ≤ 100 then some (.val (.str d.shown)) else none
  | _, _ => none
def tyOk : Ty → PD → Bool
  | .int, .int _ | .int, .bool _ | .str, .str _ | .bool, .bool _ | .tuple, .tuple _ | .list, .list _ => true
  | _, _ => false
def isiD (ts : List Ty) : PD → Option Bool
  | .dict _ => none
  | d => some (ts.any fun t => tyOk t d)

structure Cfg where
  fn : Nat → DEn → Option (Slo × DEn)
  gl : Nat → Option PD

def opdOf (m : Bool) (e : Ir) (f : DEn → Option (Slo × DEn)) (ρ : DEn) : Option (Opd × DEn) :=
  match m, e with
  | _, .lend i => match ρ[i]? with
    | some (.own _ _) => some (.slot i, ρ)
    | _ => none
  | true, .var i => match ρ[i]? with
    | some .un => none
    | none => none
    | _ => some (.slot i, ρ)
  | true, _ => match f ρ with
    | some (r, ρ1) => some (.res r, ρ1)
    | none => none
  | false, _ => match f ρ with
    | some (r, ρ1) => match frz r with
      | some d => some (.res (.val d), ρ1)
      | none => none
    | none => none
/-- a value stored to a target -/
def asgs : Ir → List PD → DEn → Option DEn
  | .nil, [], ρ => some ρ
  | .cons (.var i) r, d :: ds, ρ => if i < ρ.length then asgs r ds (ρ.set i (.val d)) else none
  | _, _, _ => none
def asg : Ir → PD → DEn → Option DEn
  | .var i, d, ρ => if i < ρ.length then some (ρ.set i (.val d)) else none
  | .tup es, .tuple ds, ρ => asgs es ds ρ
  | .tup es, .list ds, ρ => asgs es ds ρ
  | _, _, _ => none
def seqD : PD → Option (List PD)
  | .list ds => some ds
  | .tuple ds => some ds
  | _ => none
def rngD (lo hi : Int) : Option (List PD) :=
  if -(2 ^ 62) ≤ lo ∧ lo < 2 ^ 62 ∧ -(2 ^ 62) ≤ hi ∧ hi < 2 ^ 62 then some ((List.range (hi - lo).toNat).map fun (k : Nat) => .int (lo + (k : Int))) else none
/-- a comprehension's block sees values alone -/
def blk1 : Slo → Slo
  | .val d => .val d
  | _ => .un
def wipeD (ρ : DEn) : List Nat → DEn
  | [] => ρ
  | v :: vs => (wipeD ρ vs).set v .un
def blkD (ρ : DEn) (vs : List Nat) : DEn := wipeD (ρ.map blk1) vs
def truS : Slo → Option Bool
  | .val (.bool b) => some b
  | _ => none
def compL (t : Ir) (c e : DEn → Option (Slo × DEn)) (ρ : DEn) : List PD → List PD → Option (List PD)
  | [], acc => some acc
  | d :: ds, acc => match asg t d ρ with
    | none => none
    | some ρ1 => match c ρ1 with
      | some (.val (.bool true), ρ2) => match e ρ2 with
        | some (r, _) => match frz r with
          | some x => if acc.length < sizeLine then compL t c e ρ ds (acc ++ [x]) else none
          | none => none
        | none => none
      | some (.val (.bool false), _) => compL t c e ρ ds acc
      | _ => none
def valsOf : List Opd → Option (List PD)
  | [] => some []
  | .res (.val d) :: r => match valsOf r with
    | some ds => some (d :: ds)
    | none => none
  | _ => none
/-- a call's arguments -/
def argsOf (ρ : DEn) : List Opd → Option DEn
  | [] => some []
  | .res (.val d) :: r => match argsOf ρ r with
    | some as => some (.val d :: as)
    | none => none
  | .slot i :: r => match ρ[i]?, argsOf ρ r with
    | some (.own _ ds), some as => some (.own none ds :: as)
    | _, _ => none
  | _ => none
def slotsOf : List Opd → List Nat
  | [] => []
  | .slot i :: r => i :: slotsOf r
  | _ :: r => slotsOf r
/-- what a call has made of the lists that were lent -/
def putBack (ρ : DEn) : List Opd → DEn → Option DEn
  | [], [] => some ρ
  | .res _ :: r, _ :: os => putBack ρ r os
  | .slot i :: r, .own _ ds :: os => match ρ[i]? with
    | some (.own p _) => putBack (ρ.set i (.own p ds)) r os
    | _ => none
  | _, _ => none
def optI : Option PD → Option (Option Int)
  | some (.int i) => some (some i)
  | _ => none
def plain : Slo → Slo
  | .own _ ds => .own none ds
  | r => r

mutual
def evX (C : Cfg) : Ir → DEn → Option (Slo × DEn)
  | .var i, ρ => match ρ[i]? with
    | some (.val d) => some (.val d, ρ)
    | some (.own _ ds) => some (.val (.list ds), ρ.set i (.val (.list ds)))
    | _ => none
  | .non, ρ => some (.val .none, ρ)
  | .bl b, ρ => some (.val (.bool b), ρ)
  | .int i, ρ => some (.val (.int i), ρ)
  | .str x, ρ => some (.val (.str x), ρ)
  | .glb g, ρ => match C.gl g with
    | some d => some (.val d, ρ)
    | none => none
  | .bin o a b, ρ => match opdOf true a (evX C a) ρ with
    | none => none
    | some (x, ρ1) => match opdOf true b (evX C b) ρ1 with
      | none => none
      | some (y, ρ2) => match rdO ρ2 x, rdO ρ2 y with
        | some d, some e => match bopD o d e with
          | some r => some (r, ρ2)
          | none => none
        | _, _ => none
  | .neg a, ρ => match evX C a ρ with
    | some (.val (.int i), ρ1) => some (.val (.int (-i)), ρ1)
    | _ => none
  | .not a, ρ => match evX C a ρ with
    | some (.val (.bool b), ρ1) => some (.val (.bool (!b)), ρ1)
    | _ => none
  | .cmp o a b, ρ => match opdOf true a (evX C a) ρ with
    | none => none
    | some (x, ρ1) => match opdOf true b (evX C b) ρ1 with
      | none => none
      | some (y, ρ2) => match rdO ρ2 x, rdO ρ2 y with
        | some d, some e => match copD o d e with
          | some r => some (.val (.bool r), ρ2)
          | none => none
        | _, _ => none
  | .chain o p a b c, ρ => match opdOf true a (evX C a) ρ with
    | none => none
    | some (x, ρ1) => match opdOf true b (evX C b) ρ1 with
      | none => none
      | some (y, ρ2) => match rdO ρ2 x, rdO ρ2 y with
        | some d, some e => match copD o d e with
          | some false => some (.val (.bool false), ρ2)
          | some true => match opdOf true c (evX C c) ρ2 with
            | none => none
            | some (z, ρ3) => match rdO ρ3 y, rdO ρ3 z with
              | some e', some f => match copD p e' f with
                | some r => some (.val (.bool r), ρ3)
                | none => none
              | _, _ => none
          | none => none
        | _, _ => none
  | .and a b, ρ => match evX C a ρ with
    | some (.val (.bool true), ρ1) => evX C b ρ1
    | some (.val (.bool false), ρ1) => some (.val (.bool false), ρ1)
    | _ => none
  | .or a b, ρ => match evX C a ρ with
    | some (.val (.bool false), ρ1) => evX C b ρ1
    | some (.val (.bool true), ρ1) => some (.val (.bool true), ρ1)
    | _ => none
  | .ife c a b, ρ => match evX C c ρ with
    | some (.val (.bool true), ρ1) => evX C a ρ1
    | some (.val (.bool false), ρ1) => evX C b ρ1
    | _ => none
  | .sub a b, ρ => match opdOf true a (evX C a) ρ with
    | none => none
    | some (x, ρ1) => match opdOf true b (evX C b) ρ1 with
      | none => none
      | some (y, ρ2) => match rdO ρ2 x, rdO ρ2 y with
        | some d, some e => match subD d e with
          | some r => some (.val r, ρ2)
          | none => none
        | _, _ => none
  | .slc a lo hi, ρ => match opdOf true a (evX C a) ρ with
    | none => none
    | some (x, ρ1) => match evP C lo ρ1 with
      | none => none
      | some (l, ρ2) => match evP C hi ρ2 with
        | none => none
        | some (h, ρ3) => match rdO ρ3 x with
          | some d => match slD d l h with
            | some r => some (r, ρ3)
            | none => none
          | none => none
  | .rev a, ρ => match opdOf true a (evX C a) ρ with
    | none => none
    | some (x, ρ1) => match rdO ρ1 x with
      | some (.list ds) => some (.own none ds.reverse, ρ1)
      | _ => none
  | .tup es, ρ => match evL C false es ρ with
    | none => none
    | some (xs, ρ1) => match valsOf xs with
      | some ds => if ds.length ≤ sizeLine then some (.val (.tuple ds), ρ1) else none
      | none => none
  | .lst es, ρ => match evL C false es ρ with
    | none => none
    | some (xs, ρ1) => match valsOf xs with
      | some ds => if ds.length ≤ sizeLine then some (.own none ds, ρ1) else none
      | none => none
  | .call f es, ρ => match evL C false es ρ with
    | none => none
    | some (xs, ρ1) => if (slotsOf xs).Nodup then match argsOf ρ1 xs with
        | none => none
        | some as => match C.fn f as with
          | none => none
          | some (r, os) => match putBack ρ1 xs os with
            | some ρ2 => some (r, ρ2)
            | none => none
      else none
  | .prim p es, ρ => match evL C true es ρ with
    | none => none
    | some (xs, ρ1) => match rdAll ρ1 xs with
      | none => none
      | some ds => match prD p ds with
        | some r => some (r, ρ1)
        | none => none
  | .isi ts a, ρ => match opdOf true a (evX C a) ρ with
    | none => none
    | some (x, ρ1) => match rdO ρ1 x with
      | none => none
      | some d => match isiD ts d with
        | some b => some (.val (.bool b), ρ1)
        | none => none
  | .comp t it c e vs, ρ => match evI C true it ρ with
    | none => none
    | some (ds, ρ1) => match compL t (evX C c) (evX C e) (blkD ρ1 vs) ds [] with
      | some acc => some (.own none acc, ρ1)
      | none => none
  | .app i e, ρ => match ρ[i]? with
    | some (.own _ _) => match opdOf false e (evX C e) ρ with
      | some (.res (.val d), ρ1) => match ρ1[i]? with
        | some (.own p ds) => if ds.length < sizeLine then some (.val .none, ρ1.set i (.own p (ds ++ [d]))) else none
        | _ => none
      | _ => none
    | _ => none
  | .ext i e, ρ => match ρ[i]? with
    | some (.own _ _) => match opdOf false e (evX C e) ρ with
      | some (.res (.val d), ρ1) => match ρ1[i]? with
        | some (.own p ds) => match seqD d with
          | some es => if ds.length + es.length ≤ sizeLine then some (.val .none, ρ1.set i (.own p (ds ++ es))) else none
          | none => none
        | _ => none
      | _ => none
    | _ => none
  | .pop i, ρ => match ρ[i]? with
    | some (.own p ds) => match ds[ds.length - 1]? with
      | some d => some (.val d, ρ.set i (.own p ds.dropLast))
      | none => none
    | _ => none
  | _, _ => none
def evP (C : Cfg) : Ir → DEn → Option (Option Int × DEn)
  | .nil, ρ => some (none, ρ)
  | .cons a _, ρ => match evX C a ρ with
    | some (.val (.int i), ρ1) => some (some i, ρ1)
    | _ => none
  | _, _ => none
def evL (C : Cfg) (m : Bool) : Ir → DEn → Option (List Opd × DEn)
  | .nil, ρ => some ([], ρ)
  | .cons a r, ρ => match opdOf m a (evX C a) ρ with
    | none => none
    | some (x, ρ1) => match evL C m r ρ1 with
      | none => none
      | some (xs, ρ2) => some (x :: xs, ρ2)
  | _, _ => none
def evI (C : Cfg) (m : Bool) : Ir → DEn → Option (List PD × DEn)
  | .rng1 a, ρ => match evX C a ρ with
    | some (.val (.int j), ρ1) => match rngD 0 j with
      | some ds => some (ds, ρ1)
      | none => none
    | _ => none
  | .rng2 a b, ρ => match evX C a ρ with
    | some (.val (.int i), ρ1) => match evX C b ρ1 with
      | some (.val (.int j), ρ2) => match rngD i j with
        | some ds => some (ds, ρ2)
        | none => none
      | _ => none
    | _ => none
  | .cons a _, ρ => match opdOf m a (evX C a) ρ with
    | none => none
    | some (x, ρ1) => match rdO ρ1 x with
      | none => none
      | some d => match seqD d with
        | some ds => some (ds, ρ1)
        | none => none
  | _, _ => none
end

inductive Out where
  | nx (ρ : DEn) | bk (ρ : DEn) | ct (ρ : DEn) | rt (r : Slo) (ρ : DEn)
def whileL (c : DEn → Option (Slo × DEn)) (b : DEn → Option Out) : Nat → DEn → Option Out
  | 0, _ => none
  | n + 1, ρ => match c ρ with
    | some (.val (.bool true), ρ1) => match b ρ1 with
      | some (.nx ρ2) => whileL c b n ρ2
      | some (.ct ρ2) => whileL c b n ρ2
      | some (.bk ρ2) => some (.nx ρ2)
      | some (.rt r ρ2) => some (.rt r ρ2)
      | none => none
    | some (.val (.bool false), ρ1) => some (.nx ρ1)
    | _ => none
def forL (t : Ir) (b : DEn → Option Out) : List PD → DEn → Option Out
  | [], ρ => some (.nx ρ)
  | d :: ds, ρ => match asg t d ρ with
    | none => none
    | some ρ1 => match b ρ1 with
      | some (.nx ρ2) => forL t b ds ρ2
      | some (.ct ρ2) => forL t b ds ρ2
      | some (.bk ρ2) => some (.nx ρ2)
      | some (.rt r ρ2) => some (.rt r ρ2)
      | none => none
def wfuel : Nat := 1000000
def evS (C : Cfg) : Ir → DEn → Option Out
  | .nil, ρ => some (.nx ρ)
  | .cons a b, ρ => match evS C a ρ with
    | some (.nx ρ1) => evS C b ρ1
    | o => o
  | .set i keep e, ρ => match evX C e ρ with
    | none => none
    | some (r, ρ1) => if i < ρ1.length then
        match keep with
        | true => match r with
          | .own _ ds => some (.nx (ρ1.set i (.own none ds)))
          | _ => none
        | false => match frz r with
          | some d => some (.nx (ρ1.set i (.val d)))
          | none => none
      else none
  | .unp t e, ρ => match evX C e ρ with
    | none => none
    | some (r, ρ1) => match frz r with
      | none => none
      | some d => match asg t d ρ1 with
        | some ρ2 => some (.nx ρ2)
        | none => none
  | .sti i ix e, ρ => match evX C e ρ with
    | none => none
    | some (r, ρ1) => match frz r with
      | none => none
      | some d => match ρ1[i]? with
        | some (.own _ _) => match evX C ix ρ1 with
          | some (.val (.int k), ρ2) => match ρ2[i]? with
            | some (.own p ds) => match ixN ds.length k with
              | some j => some (.nx (ρ2.set i (.own p (ds.set j d))))
              | none => none
            | _ => none
          | _ => none
        | _ => none
  | .ex e, ρ => match evX C e ρ with
    | some (_, ρ1) => some (.nx ρ1)
    | none => none
  | .ifs c a b, ρ => match evX C c ρ with
    | some (.val (.bool true), ρ1) => evS C a ρ1
    | some (.val (.bool false), ρ1) => evS C b ρ1
    | _ => none
  | .whl c b, ρ => whileL (evX C c) (evS C b) wfuel ρ
  | .fors t it b, ρ => match evI C false it ρ with
    | none => none
    | some (ds, ρ1) => forL t (evS C b) ds ρ1
  | .ret e, ρ => match e with
    | .var i => match ρ[i]? with
      | some (.own none ds) => some (.rt (.own none ds) (ρ.set i .un))
      | some (.val d) => some (.rt (.val d) ρ)
      | _ => none
    | _ => match evX C e ρ with
      | some (r, ρ1) => some (.rt r ρ1)
      | none => none
  | .brk, ρ => some (.bk ρ)
  | .cnt, ρ => some (.ct ρ)
  | .pas, ρ => some (.nx ρ)
  | _, _ => none

/-- a def: its body at its arguments -/
def tagA (as : DEn) : DEn := as.mapIdx fun i s => match s with
  | .own _ ds => .own (some i) ds
  | s => s
def outsA (ρ : DEn) : Nat → DEn → Option DEn
  | _, [] => some []
  | i, .own _ _ :: r => match ρ[i]?, outsA ρ (i + 1) r with
    | some (.own (some j) ds), some os => if i = j then some (.own none ds :: os) else none
    | _, _ => none
  | i, _ :: r => match outsA ρ (i + 1) r with
    | some os => some (.un :: os)
    | none => none
def runF (C : Cfg) (np n : Nat) (body : Ir) (as : DEn) : Option (Slo × DEn) :=
  if as.length = np then
    match evS C body (tagA as ++ List.replicate (n - np) .un) with
    | some (.nx ρ) => match outsA ρ 0 as with
      | some os => some (.val .none, os)
      | none => none
    | some (.rt r ρ) => match outsA ρ 0 as with
      | some os => some (r, os)
      | none => none
    | _ => none
  else none
end Dv

set_option Elab.async false
set_option linter.all false
set_option maxRecDepth 100000
set_option maxHeartbeats 4000000
/-! the small language's value is what the text does: expressions -/
namespace Dv
open PySem PySem.Spec PyProof.Rows L2

def RepO (K : PySem.W.Frag) (F H : Hp) (σ : L2.St) (v : V) : Opd → Prop
  | .slot i => σ[i]? = some (some v)
  | .res r => RepS K F H v r
def OwnO (x : Opd) (v : V) (b : Addr) : Prop := ∃ r, x = .res r ∧ OwnV r v b
structure AftI (K : PySem.W.Frag) (α : Nat → Addr) (O : Addr → Prop) (F H : Hp) (σ : L2.St) (ρ' : DEn) (x : Opd) (v : V) (F' H' : Hp) : Prop where
  er : ER K α F' H' ρ' σ
  rep : RepO K F' H' σ v x
  dist : ∀ b, OwnO x v b → ¬ OwnA ρ' σ b
  st : Stp O (OwnA ρ' σ) F H F' H'
section
variable (K : PySem.W.Frag) (C : Cfg)
/-- the readings -/
def tX (ir : Ir) : TE := fun σ H Q => ∃ α F ρ r ρ', ER K α F H ρ σ ∧ evX C ir ρ = some (r, ρ') ∧ ∀ v F' H', Aft K α (OwnA ρ σ) F H σ ρ' r v F' H' → Q v H'
def tI (m : Bool) (ir : Ir) : TE := fun σ H Q => ∃ α F ρ x ρ', ER K α F H ρ σ ∧ opdOf m ir (evX C ir) ρ = some (x, ρ') ∧ ∀ v F' H', AftI K α (OwnA ρ σ) F H σ ρ' x v F' H' → Q v H'
def tT (ir : Ir) : TT := fun σ H Q => ∃ α F ρ b ρ', ER K α F H ρ σ ∧ evX C ir ρ = some (.val (.bool b), ρ') ∧ ∀ F' H', ER K α F' H' ρ' σ → Stp (OwnA ρ σ) (OwnA ρ' σ) F H F' H' → Q b H'
end
section
variable {X : Cx} {C : Cfg} {e : Expr} {ir : Ir}
theorem pe_mono {t t' : TE} (h : PE X e t) (w : ∀ σ H Q, t' σ H Q → t σ H Q) : PE X e t' := ⟨fun pins s σ H Q I q => h.run pins s σ H Q I (w σ H Q q)⟩
theorem pt_mono {t t' : TT} (h : PT X e t) (w : ∀ σ H Q, t' σ H Q → t σ H Q) : PT X e t' := ⟨fun pins s σ H Q I q => h.run pins s σ H Q I (w σ H Q q)⟩
theorem pa_mono {es : List Expr} {t t' : TA} (h : PA X es t) (w : ∀ σ H Q, t' σ H Q → t σ H Q) : PA X es t' := ⟨fun pos pins s σ H Q I q => h.run pos pins s σ H Q I (w σ H Q q)⟩

def notName : Ir → Bool
  | .var _ => false
  | .lend _ => false
  | _ => true
theorem opd_true (h : notName ir = true) (f : DEn → Option (Slo × DEn)) (ρ : DEn) : opdOf true ir f ρ = match f ρ with
    | some (r, ρ1) => some (.res r, ρ1)
    | none => none := by
  cases ir <;> first | rfl | cases h
theorem opd_false (h : notName ir = true) (f : DEn → Option (Slo × DEn)) (ρ : DEn) : opdOf false ir f ρ = match f ρ with
    | some (r, ρ1) => match frz r with
      | some d => some (.res (.val d), ρ1)
      | none => none
    | none => none := by
  cases ir <;> first | rfl | cases h
theorem AftI.of {K : PySem.W.Frag} {α : Nat → Addr} {O : Addr → Prop} {F H F' H' : Hp} {σ : L2.St} {ρ' : DEn} {r : Slo} {v : V} (A : Aft K α O F H σ ρ' r v F' H') : AftI K α O F H σ ρ' (.res r) v F' H' :=
  ⟨A.er, A.rep, fun b ⟨r', e, z⟩ => by cases e; exact A.dist b z, A.st.mono (fun _ z => z) fun _ z => .inl z⟩
/-- an operand of any form but a name -/
theorem tI_of {K : PySem.W.Frag} (m : Bool) (h : notName ir = true) {σ : L2.St} {H : Hp} {Q : VK} (q : tI K C m ir σ H Q) : tX K C ir σ H Q := by
  obtain ⟨α, F, ρ, x, ρ', E, ev, k⟩ := q
  cases m with
  | true =>
    rw [opd_true h] at ev
    split at ev
    · rename_i r ρ1 e1
      cases ev
      exact ⟨α, F, ρ, r, ρ', E, e1, fun v F' H' A => k v F' H' (.of A)⟩
    · cases ev
  | false =>
    rw [opd_false h] at ev
    split at ev
    · rename_i r ρ1 e1
      split at ev
      · rename_i d e2
        cases ev
        refine ⟨α, F, ρ, r, ρ', E, e1, fun v F' H' A => ?_⟩
        obtain ⟨F2, A2⟩ := frz_aft A e2
        exact k v F2 H' (.of A2)
      · cases ev
    · cases ev
/-- what holds of a piece of text and its word of the small language -/
def isIf : Expr → Bool
  | .IfExp _ _ _ _ => true
  | _ => false
/-- no star, no set, no slice -/
def tame : Expr → Bool
  | .Starred _ _ => false
  | .Set _ _ _ => false
  | .Slice _ _ _ _ => false
  | _ => true
structure DX (X : Cx) (C : Cfg) (e : Expr) (ir : Ir) : Prop where
  x : PE X e (tX X.K C ir)
  o : ∀ m, PE X e (tI X.K C m ir)
  t : isIf e = false → PT X e (tT X.K C ir)
  tm : tame e = true
theorem tame_star {e : Expr} (h : tame e = true) (es : List Expr) (env : PySem.Env) : starEach (e :: es) env = (false, eval e env) :: starEach es env := by
  cases e <;> first | rfl | cases h
theorem tame_marks {e : Expr} (h : tame e = true) (op : CmpOp) : behindInMarks op e = false := by
  cases e <;> first | rfl | cases h
theorem tame_ix {e : Expr} (h : tame e = true) : PlainIx e := fun o i => by
  cases e <;> first | rfl | cases h
theorem tame_fold {e : Expr} (h : tame e = true) (env : PySem.Env) (x : Value) : foldedSetIterable e env x = pure x := by
  cases e <;> first | rfl | cases h
theorem bool_rep {K : PySem.W.Frag} {F H : Hp} {v : V} {b : Bool} (h : RepS K F H v (.val (.bool b))) : v = .bl b := by
  have h' : Rp K F v (.bool b) := h
  cases h'; rfl
theorem int_rep {K : PySem.W.Frag} {F H : Hp} {v : V} {b : Int} (h : RepS K F H v (.val (.int b))) : v = .int b := by
  have h' : Rp K F v (.int b) := h
  cases h'; rfl
theorem Aft.val {K : PySem.W.Frag} {α : Nat → Addr} {O : Addr → Prop} {F H F' H' : Hp} {σ : L2.St} {ρ' : DEn} {d : PD} {v : V} (A : Aft K α O F H σ ρ' (.val d) v F' H') : Stp O (OwnA ρ' σ) F H F' H' :=
  A.st.mono (fun _ z => z) fun _ z => .inl z
theorem tT_of {K : PySem.W.Frag} {σ : L2.St} {H : Hp} {Q : Bool → Hp → Prop} (q : tT K C ir σ H Q) : tX K C ir σ H fun v H1 => ∃ c, v = .bl c ∧ Q c H1 := by
  obtain ⟨α, F, ρ, b, ρ', E, ev, k⟩ := q
  exact ⟨α, F, ρ, _, ρ', E, ev, fun v F' H' A => ⟨b, bool_rep A.rep, k F' H' A.er A.val⟩⟩
def plainT (e : Expr) : Bool := match e with
  | .UnaryOp .Not _ _ => false
  | .BoolOp _ _ _ => false
  | .IfExp _ _ _ _ => false
  | .Compare _ _ _ _ => false
  | _ => true
theorem isTrue_pl (h : plainT e = true) (env : PySem.Env) (whole : Sem Value) : isTrue e env whole = (do let v ← whole; standAt e.pos; holding [v] (truthy v)) := by
  cases e <;> first
    | rfl
    | (cases h; done)
    | (rename_i op _ _; cases op <;> first | rfl | cases h)
theorem DX.mk' (h : PE X e (tX X.K C ir)) (n : notName ir = true) (p : plainT e = true) (t : tame e = true) : DX X C e ir :=
  ⟨h, fun m => pe_mono h fun _ _ _ q => tI_of m n q, fun _ => pt_mono (pt_val h fun w => isTrue_pl p X.env w) fun _ _ _ q => tT_of q, t⟩
end
end Dv

set_option Elab.async false
set_option linter.all false
set_option maxRecDepth 100000
set_option maxHeartbeats 4000000
/-! expressions: constants, names, operators -/
namespace Dv
open PySem PySem.Spec PyProof.Rows L2
section
variable {K : PySem.W.Frag} {C : Cfg}
theorem RepO.step {O O' : Addr → Prop} {F H F' H' : Hp} {σ : L2.St} {v : V} {x : Opd} (h : RepO K F H σ v x) (n : ∀ b, OwnO x v b → ¬ O b) (s : Stp O O' F H F' H') : RepO K F' H' σ v x := by
  cases x with
  | slot i => exact h
  | res r => exact RepS.step h (fun b z => n b ⟨r, rfl, z⟩) s
theorem view_of {α : Nat → Addr} {F H : Hp} {σ : L2.St} {ρ : DEn} {v : V} {x : Opd} {d : PD} (E : ER K α F H ρ σ) (h : RepO K F H σ v x) (r : rdO ρ x = some d) : Vp K F H v d := by
  cases x with
  | slot i =>
    have h' : σ[i]? = some (some v) := h
    have r' : rdS ρ[i]? = some d := r
    cases e : ρ[i]? with
    | none => rw [e] at r'; cases r'
    | some t =>
      rw [e] at r'
      cases t with
      | un => cases r'
      | val d' =>
        cases r'
        obtain ⟨w, h1, h2⟩ := E.val i _ e
        rw [h'] at h1; cases h1
        exact .inl h2
      | own p ds =>
        cases r'
        obtain ⟨a, xs, h1, h2, _, h4, _⟩ := E.own i p ds e
        rw [h'] at h1; cases h1
        exact .inr ⟨a, xs, ds, rfl, rfl, h2, h4⟩
  | res r0 =>
    have r' : rdS (some r0) = some d := r
    cases r0 with
    | un => cases r'
    | val d' => cases r'; exact .inl h
    | own p ds =>
      cases r'
      obtain ⟨a, xs, e, h2, _, h4⟩ := (show RepS K F H v (.own p ds) from h)
      exact .inr ⟨a, xs, ds, e, rfl, h2, h4⟩
theorem pairI {α : Nat → Addr} {F H : Hp} {σ : L2.St} {ρ ρ1 ρ2 : DEn} {a b : Ir} {x y : Opd} (E : ER K α F H ρ σ) (ha : opdOf true a (evX C a) ρ = some (x, ρ1)) (hb : opdOf true b (evX C b) ρ1 = some (y, ρ2)) {P : V → V → Hp → Prop}
    (k : ∀ v u F' H', ER K α F' H' ρ2 σ → RepO K F' H' σ v x → RepO K F' H' σ u y → (∀ b, OwnO y u b → ¬ OwnA ρ2 σ b) → Stp (OwnA ρ σ) (OwnA ρ2 σ) F H F' H' → P v u H') : tI K C true a σ H fun v H1 => tI K C true b σ H1 fun u H2 => P v u H2 :=
  ⟨α, F, ρ, x, ρ1, E, ha, fun v F1 H1 A => ⟨α, F1, ρ1, y, ρ2, A.er, hb, fun u F2 H2 B => k v u F2 H2 B.er (A.rep.step A.dist B.st) B.rep B.dist (A.st.trans B.st)⟩⟩
/-- a rule on values by data -/
def rB (K : PySem.W.Frag) (g : PD → PD → Option Slo) : R2 := fun x y H Q => ∃ F d e r, Same F H ∧ Vp K F H x d ∧ Vp K F H y e ∧ g d e = some r ∧ ∀ z F' H', Made K F H r z F' H' → Q z H'
def rC (K : PySem.W.Frag) (g : PD → PD → Option Bool) : R2 := fun x y H Q => ∃ F d e b, Same F H ∧ Vp K F H x d ∧ Vp K F H y e ∧ g d e = some b ∧ Q (.bl b) H
end
section
variable {X : Cx} {C : Cfg} {a b c : Expr} {ia ib ic : Ir} {pos : Pos}
theorem opr_of {f : Value → Value → Sem Value} {g : PD → PD → Option Slo} (h : OpD X f g) : OpR X f (rB X.K g) := fun pins s σ H x y v u Q I rx ry ⟨F, d, e, r, sm, vd, ve, hg, q⟩ =>
  h pins s σ H x y v u Q F d e r I rx ry sm vd ve hg q
theorem cpr_of {f : Value → Value → Sem Value} {g : PD → PD → Option Bool} (h : CpD X f g) : OpR X f (rC X.K g) := fun pins s σ H x y v u Q I rx ry ⟨F, d, e, r, sm, vd, ve, hg, q⟩ =>
  h pins s σ H x y v u Q F d e r I rx ry sm vd ve hg q

theorem dx_const {v : V} {d : PD} (h : PE X a (tC v)) (r : ∀ F, Rp X.K F v d) (ev : ∀ ρ, evX C ia ρ = some (.val d, ρ)) (n : notName ia = true) (p : plainT a = true) (t : tame a = true) : DX X C a ia := by
  refine .mk' (pe_mono h fun σ H Q q => ?_) n p t
  obtain ⟨α, F, ρ, r', ρ', E, e, k⟩ := q
  rw [ev] at e; cases e
  exact k v F H (.of_made E (made_same E.sub (r F)))
theorem dx_int {i j} : DX X C (.Constant (.int i) j pos) (.int i) := dx_const pe_int (fun _ => .int i) (fun _ => by simp [evX]) rfl rfl rfl
theorem dx_bl {i j} : DX X C (.Constant (.bool i) j pos) (.bl i) := dx_const pe_bl (fun _ => .bl i) (fun _ => by simp [evX]) rfl rfl rfl
theorem dx_non {j} : DX X C (.Constant .none j pos) .non := dx_const pe_non (fun _ => .non) (fun _ => by simp [evX]) rfl rfl rfl
theorem dx_str {i j} : DX X C (.Constant (.str i) j pos) (.str i) := dx_const pe_str (fun _ => .str i) (fun _ => by simp [evX]) rfl rfl rfl

theorem ER.freeze {K : PySem.W.Frag} {α : Nat → Addr} {F H : Hp} {ρ : DEn} {σ : L2.St} {i : Nat} {p : Option Nat} {ds : List PD} (E : ER K α F H ρ σ) (h : ρ[i]? = some (Slo.own p ds)) :
    ∃ v F', σ[i]? = some (some v) ∧ Aft K α (OwnA ρ σ) F H σ (ρ.set i (.val (.list ds))) (.val (.list ds)) v F' H := by
  obtain ⟨a, xs, h1, h2, h3, h4, _⟩ := E.own i p ds h
  have hi : i < ρ.length := (List.getElem?_eq_some_iff.mp h).1
  have ex : Same F (upd F a (.lst xs)) := same_upd h3
  have hr : Rp K (upd F a (.lst xs)) (.ref a) (.list ds) := .lst (.of upd_same) (rpAll_mono ex _ _ h4)
  have sub : Same (upd F a (.lst xs)) H := fun b o e => by
    by_cases c : b = a
    · subst c; rw [upd_same] at e; rw [← e]; exact h2
    · rw [upd_ne c] at e; exact E.sub b o e
  have hin : ∀ (j : Nat) (q : Option Nat) (es : List PD), (ρ.set i (.val (.list ds)))[j]? = some (Slo.own q es) → j ≠ i ∧ ρ[j]? = some (Slo.own q es) := fun j q es e => by
    by_cases c : j = i
    · subst c; rw [List.getElem?_set_self hi] at e; cases e
    · rw [List.getElem?_set_ne (Ne.symm c)] at e; exact ⟨c, e⟩
  refine ⟨.ref a, upd F a (.lst xs), h1, ⟨sub, by rw [List.length_set]; exact E.len, fun j d e => ?_, fun j q es e => ?_, fun j k q q' es es' n e1 e2 => E.inj j k q q' es es' n (hin _ _ _ e1).2 (hin _ _ _ e2).2⟩, hr, fun b z => absurd z ownV_val, ex, fun b o e _ => e, fun b o e n f => ?_, fun b z => ?_, fun b o e => ⟨o, e⟩⟩
  · by_cases c : j = i
    · subst c
      rw [List.getElem?_set_self hi] at e
      cases e
      exact ⟨.ref a, h1, hr⟩
    · rw [List.getElem?_set_ne (Ne.symm c)] at e
      obtain ⟨w, k1, k2⟩ := E.val j d e
      exact ⟨w, k1, rp_mono ex _ _ k2⟩
  · obtain ⟨c, e'⟩ := hin _ _ _ e
    obtain ⟨a', xs', k1, k2, k3, k4, k5⟩ := E.own j q es e'
    refine ⟨a', xs', k1, k2, ?_, rpAll_mono ex _ _ k4, k5⟩
    rw [upd_ne]
    · exact k3
    · rintro rfl
      exact E.inj j i q p es ds c e' h (by rw [k1, h1])
  · rw [upd_ne]
    · exact f
    · rintro rfl
      exact n ⟨i, p, ds, h, h1⟩
  · rcases z with ⟨j, q, es, e1, e2⟩ | z
    · exact .inl ⟨j, q, es, (hin _ _ _ e1).2, e2⟩
    · exact absurd z ownV_val
theorem dx_var {i : Nat} {x : Str} (h : PE X (.Name x pos) (tVar i)) : DX X C (.Name x pos) (.var i) := by
  have hx : PE X (.Name x pos) (tX X.K C (.var i)) := by
    refine pe_mono h fun σ H Q q => ?_
    obtain ⟨α, F, ρ, r, ρ', E, ev, k⟩ := q
    simp only [evX] at ev
    split at ev
    · rename_i d e
      cases ev
      obtain ⟨v, h1, h2⟩ := E.val i d e
      exact ⟨v, h1, k v F H (.of_made E (made_same E.sub h2))⟩
    · rename_i p ds e
      cases ev
      obtain ⟨v, F', h1, A⟩ := E.freeze e
      exact ⟨v, h1, k v F' H A⟩
    · cases ev
  refine ⟨hx, fun m => ?_, fun _ => pt_mono (pt_val hx fun w => rfl) fun _ _ _ q => tT_of q, rfl⟩
  cases m with
  | true =>
    refine pe_mono h fun σ H Q q => ?_
    obtain ⟨α, F, ρ, y, ρ', E, ev, k⟩ := q
    have fin : ∀ v, σ[i]? = some (some v) → AftI X.K α (OwnA ρ σ) F H σ ρ (.slot i) v F H := fun v hv => ⟨E, hv, (fun b ⟨_, z, _⟩ => nomatch z), .refl⟩
    unfold opdOf at ev
    simp only at ev
    split at ev
    · cases ev
    · cases ev
    · rename_i t n1 n2
      cases ev
      cases e : ρ[i]? with
      | none => exact absurd e n2
      | some t =>
        cases t with
        | un => exact absurd e n1
        | val d =>
          obtain ⟨v, h1, _⟩ := E.val i d e
          exact ⟨v, h1, k v F H (fin v h1)⟩
        | own p ds =>
          obtain ⟨a, xs, h1, _⟩ := E.own i p ds e
          exact ⟨_, h1, k _ F H (fin _ h1)⟩
  | false =>
    refine pe_mono hx fun σ H Q q => ?_
    obtain ⟨α, F, ρ, y, ρ', E, ev, k⟩ := q
    unfold opdOf at ev
    simp only at ev
    split at ev
    · rename_i r ρ1 e1
      split at ev
      · rename_i d e2
        cases ev
        refine ⟨α, F, ρ, r, ρ', E, e1, fun v F' H' A => ?_⟩
        obtain ⟨F2, A2⟩ := frz_aft A e2
        exact k v F2 H' (.of A2)
      · cases ev
    · cases ev
/-- a list that is lent -/
theorem pe_lend {i : Nat} {x : Str} (m : Bool) (h : PE X (.Name x pos) (tVar i)) : PE X (.Name x pos) (tI X.K C m (.lend i)) := by
  refine pe_mono h fun σ H Q q => ?_
  obtain ⟨α, F, ρ, y, ρ', E, ev, k⟩ := q
  have ev' : (match ρ[i]? with | some (Slo.own _ _) => some (Opd.slot i, ρ) | _ => none) = some (y, ρ') := by
    cases m <;> exact ev
  split at ev'
  · rename_i p ds e
    cases ev'
    obtain ⟨a, xs, h1, _⟩ := E.own i p ds e
    exact ⟨_, h1, k _ F H ⟨E, h1, (fun b ⟨_, z, _⟩ => nomatch z), .refl⟩⟩
  · cases ev'

theorem dx_bin {op : Operator} {o : Bop} (ho : bopOf op = some o) (ha : DX X C a ia) (hb : DX X C b ib) : DX X C (.BinOp a op b pos) (.bin o ia ib) := by
  refine .mk' (pe_mono (pe_op (opr_of (opd_of ho)) (ha.o true) (hb.o true)) fun σ H Q q => ?_) rfl rfl rfl
  obtain ⟨α, F, ρ, r, ρ', E, ev, k⟩ := q
  simp only [evX] at ev
  split at ev
  · cases ev
  · rename_i x ρ1 e1
    split at ev
    · cases ev
    · rename_i y ρ2 e2
      split at ev
      · rename_i d e f1 f2
        split at ev
        · rename_i r' f3
          cases ev
          exact pairI E e1 e2 fun v u F' H' E2 r1 r2 _ st => ⟨F', d, e, r, E2.sub, view_of E2 r1 f1, view_of E2 r2 f2, f3, fun z F2 H2 M => k z F2 H2 (.after st (.of_made E2 M))⟩
        · cases ev
      · cases ev
theorem dx_cmp {op : CmpOp} {o : Cop} (ho : copOf op = some o) (hu : X.A.units + 64 < cLine) (ha : DX X C a ia) (hb : DX X C b ib) : DX X C (.Compare a [op] [b] pos) (.cmp o ia ib) := by
  have hm := tame_marks hb.tm op
  have go : ∀ (σ : L2.St) (H : Hp) (Q : VK), tX X.K C (.cmp o ia ib) σ H Q → tOp (rC X.K (copD o)) (tI X.K C true ia) (tI X.K C true ib) σ H Q := fun σ H Q q => by
    obtain ⟨α, F, ρ, r, ρ', E, ev, k⟩ := q
    simp only [evX] at ev
    split at ev
    · cases ev
    · rename_i x ρ1 e1
      split at ev
      · cases ev
      · rename_i y ρ2 e2
        split at ev
        · rename_i d e f1 f2
          split at ev
          · rename_i r' f3
            cases ev
            exact pairI E e1 e2 fun v u F' H' E2 r1 r2 _ st => ⟨F', d, e, r', E2.sub, view_of E2 r1 f1, view_of E2 r2 f2, f3, k _ F' H' (.after st (.of_made E2 (made_same E2.sub (.bl _))))⟩
          · cases ev
        · cases ev
  have hx : PE X (.Compare a [op] [b] pos) (tX X.K C (.cmp o ia ib)) := pe_mono (pe_cmpR (cpr_of (cpd_of ho hu)) (ha.o true) (hb.o true) hm) go
  exact ⟨hx, fun m => pe_mono hx fun _ _ _ q => tI_of m rfl q, fun _ => pt_mono (pt_cmpR (cpr_of (cpd_of ho hu)) (ha.o true) (hb.o true) hm) fun σ H Q q => go σ H _ (tT_of q), rfl⟩
end
end Dv

set_option Elab.async false
set_option linter.all false
set_option maxRecDepth 100000
set_option maxHeartbeats 4000000
/-! expressions: and, or, not, chains, parts, displays -/
namespace Dv
open PySem PySem.Spec PyProof.Rows L2
section
variable {X : Cx} {C : Cfg} {a b c : Expr} {ia ib ic : Ir} {pos : Pos}
theorem dx_neg (ha : DX X C a ia) : DX X C (.UnaryOp .USub a pos) (.neg ia) := by
  refine .mk' (pe_mono (pe_un un_neg ha.x) fun σ H Q q => ?_) rfl rfl rfl
  obtain ⟨α, F, ρ, r, ρ', E, ev, k⟩ := q
  simp only [evX] at ev
  split at ev
  · rename_i i ρ1 e1
    cases ev
    exact ⟨α, F, ρ, _, ρ', E, e1, fun v F' H' A => ⟨i, int_rep A.rep, k _ F' H' (.after A.val (.of_made A.er (made_same A.er.sub (.int _))))⟩⟩
  · cases ev
theorem dx_not (ha : DX X C a ia) (hi : isIf a = false) : DX X C (.UnaryOp .Not a pos) (.not ia) := by
  have hx : PE X (.UnaryOp .Not a pos) (tX X.K C (.not ia)) := by
    refine pe_mono (pe_not ha.x) fun σ H Q q => ?_
    obtain ⟨α, F, ρ, r, ρ', E, ev, k⟩ := q
    simp only [evX] at ev
    split at ev
    · rename_i i ρ1 e1
      cases ev
      exact ⟨α, F, ρ, _, ρ', E, e1, fun v F' H' A => ⟨i, bool_rep A.rep, k _ F' H' (.after A.val (.of_made A.er (made_same A.er.sub (.bl _))))⟩⟩
    · cases ev
  refine ⟨hx, fun m => pe_mono hx fun _ _ _ q => tI_of m rfl q, fun _ => pt_mono (pt_not (ha.t hi)) fun σ H Q q => ?_, rfl⟩
  obtain ⟨α, F, ρ, r, ρ', E, ev, k⟩ := q
  simp only [evX] at ev
  split at ev
  · rename_i i ρ1 e1
    cases ev
    exact ⟨α, F, ρ, i, ρ', E, e1, fun F' H' E' st => k F' H' E' st⟩
  · cases ev
/-- and, or of several -/
structure DB (X : Cx) (C : Cfg) (op : BoolOp) (es : List Expr) (pos : Pos) (ir : Ir) : Prop where
  x : PE X (.BoolOp op es pos) (tX X.K C ir)
  w : PW X (.BoolOp op es pos) (tT X.K C ir)
theorem db_and1 (ha : DX X C a ia) (hi : isIf a = false) : DB X C .And [a] pos ia := ⟨pe_one ha.x, pw_and1 (ha.t hi)⟩
theorem db_or1 (ha : DX X C a ia) (hi : isIf a = false) : DB X C .Or [a] pos ia := ⟨pe_one ha.x, pw_or1 (ha.t hi)⟩
theorem db_and {rest : List Expr} (ha : DX X C a ia) (hi : isIf a = false) (hb : DB X C .And (b :: rest) pos ib) : DB X C .And (a :: b :: rest) pos (.and ia ib) := by
  refine ⟨pe_mono (pe_and ha.x hb.x) fun σ H Q q => ?_, ⟨fun wh pins s σ H Q I q => (pw_and (ha.t hi) hb.w).run wh pins s σ H Q I ?_⟩⟩
  · obtain ⟨α, F, ρ, r, ρ', E, ev, k⟩ := q
    simp only [evX] at ev
    split at ev
    · rename_i ρ1 e1
      exact ⟨α, F, ρ, _, ρ1, E, e1, fun v F' H' A => ⟨true, bool_rep A.rep, iteT ⟨α, F', ρ1, r, ρ', A.er, ev, fun v F2 H2 B => k v F2 H2 (.after A.val B)⟩⟩⟩
    · rename_i ρ1 e1
      cases ev
      exact ⟨α, F, ρ, _, ρ', E, e1, fun v F' H' A => ⟨false, bool_rep A.rep, iteF (k _ F' H' (bool_rep A.rep ▸ A))⟩⟩
    · cases ev
  · obtain ⟨α, F, ρ, r, ρ', E, ev, k⟩ := q
    simp only [evX] at ev
    split at ev
    · rename_i ρ1 e1
      exact ⟨α, F, ρ, true, ρ1, E, e1, fun F' H' E' st => iteT ⟨α, F', ρ1, r, ρ', E', ev, fun F2 H2 E2 st2 => k F2 H2 E2 (st.trans st2)⟩⟩
    · rename_i ρ1 e1
      cases ev
      exact ⟨α, F, ρ, false, ρ', E, e1, fun F' H' E' st => iteF (k F' H' E' st)⟩
    · cases ev
theorem db_or {rest : List Expr} (ha : DX X C a ia) (hi : isIf a = false) (hb : DB X C .Or (b :: rest) pos ib) : DB X C .Or (a :: b :: rest) pos (.or ia ib) := by
  refine ⟨pe_mono (pe_or ha.x hb.x) fun σ H Q q => ?_, ⟨fun wh pins s σ H Q I q => (pw_or (ha.t hi) hb.w).run wh pins s σ H Q I ?_⟩⟩
  · obtain ⟨α, F, ρ, r, ρ', E, ev, k⟩ := q
    simp only [evX] at ev
    split at ev
    · rename_i ρ1 e1
      exact ⟨α, F, ρ, _, ρ1, E, e1, fun v F' H' A => ⟨false, bool_rep A.rep, iteF ⟨α, F', ρ1, r, ρ', A.er, ev, fun v F2 H2 B => k v F2 H2 (.after A.val B)⟩⟩⟩
    · rename_i ρ1 e1
      cases ev
      exact ⟨α, F, ρ, _, ρ', E, e1, fun v F' H' A => ⟨true, bool_rep A.rep, iteT (k _ F' H' (bool_rep A.rep ▸ A))⟩⟩
    · cases ev
  · obtain ⟨α, F, ρ, r, ρ', E, ev, k⟩ := q
    simp only [evX] at ev
    split at ev
    · rename_i ρ1 e1
      exact ⟨α, F, ρ, false, ρ1, E, e1, fun F' H' E' st => iteF ⟨α, F', ρ1, r, ρ', E', ev, fun F2 H2 E2 st2 => k F2 H2 E2 (st.trans st2)⟩⟩
    · rename_i ρ1 e1
      cases ev
      exact ⟨α, F, ρ, true, ρ', E, e1, fun F' H' E' st => iteT (k F' H' E' st)⟩
    · cases ev
theorem dx_and {rest : List Expr} (h : DB X C .And (a :: b :: rest) pos (.and ia ib)) : DX X C (.BoolOp .And (a :: b :: rest) pos) (.and ia ib) :=
  ⟨h.x, fun m => pe_mono h.x fun _ _ _ q => tI_of m rfl q, fun _ => h.w.pt, rfl⟩
theorem dx_or {rest : List Expr} (h : DB X C .Or (a :: b :: rest) pos (.or ia ib)) : DX X C (.BoolOp .Or (a :: b :: rest) pos) (.or ia ib) :=
  ⟨h.x, fun m => pe_mono h.x fun _ _ _ q => tI_of m rfl q, fun _ => h.w.pt, rfl⟩
theorem dx_ife (hc : DX X C c ic) (hi : isIf c = false) (ha : DX X C a ia) (hb : DX X C b ib) : DX X C (.IfExp c a b pos) (.ife ic ia ib) := by
  have hx : PE X (.IfExp c a b pos) (tX X.K C (.ife ic ia ib)) := by
    refine pe_mono (pe_ifExp (hc.t hi) ha.x hb.x) fun σ H Q q => ?_
    obtain ⟨α, F, ρ, r, ρ', E, ev, k⟩ := q
    simp only [evX] at ev
    split at ev
    · rename_i ρ1 e1
      exact ⟨α, F, ρ, true, ρ1, E, e1, fun F' H' E' st => iteT ⟨α, F', ρ1, r, ρ', E', ev, fun v F2 H2 B => k v F2 H2 (.after st B)⟩⟩
    · rename_i ρ1 e1
      exact ⟨α, F, ρ, false, ρ1, E, e1, fun F' H' E' st => iteF ⟨α, F', ρ1, r, ρ', E', ev, fun v F2 H2 B => k v F2 H2 (.after st B)⟩⟩
    · cases ev
  exact ⟨hx, fun m => pe_mono hx fun _ _ _ q => tI_of m rfl q, (fun z => nomatch z), rfl⟩
theorem dx_chain {op op' : CmpOp} {o p : Cop} (ho : copOf op = some o) (hp : copOf op' = some p) (hu : X.A.units + 64 < cLine) (ha : DX X C a ia) (hb : DX X C b ib) (hc : DX X C c ic) :
    DX X C (.Compare a [op, op'] [b, c] pos) (.chain o p ia ib ic) := by
  have hm : lastMarks [op, op'] [b, c] = false := tame_marks hc.tm op'
  have go : ∀ (σ : L2.St) (H : Hp) (Q : VK), tX X.K C (.chain o p ia ib ic) σ H Q → tChain (rC X.K (copD o)) (rC X.K (copD p)) (tI X.K C true ia) (tI X.K C true ib) (tI X.K C true ic) σ H Q := fun σ H Q q => by
    obtain ⟨α, F, ρ, r, ρ', E, ev, k⟩ := q
    simp only [evX] at ev
    split at ev
    · cases ev
    · rename_i x ρ1 e1
      split at ev
      · cases ev
      · rename_i y ρ2 e2
        split at ev
        · rename_i d e f1 f2
          split at ev
          · rename_i f3
            cases ev
            exact pairI E e1 e2 fun v u F' H' E2 r1 r2 _ st => ⟨F', d, e, false, E2.sub, view_of E2 r1 f1, view_of E2 r2 f2, f3, false, rfl, iteF (k _ F' H' (.after st (.of_made E2 (made_same E2.sub (.bl _)))))⟩
          · rename_i f3
            split at ev
            · cases ev
            · rename_i z ρ3 e3
              split at ev
              · rename_i d' f' g1 g2
                split at ev
                · rename_i r' g3
                  cases ev
                  exact pairI E e1 e2 fun v u F' H' E2 r1 r2 d2 st => ⟨F', d, e, true, E2.sub, view_of E2 r1 f1, view_of E2 r2 f2, f3, true, rfl, iteT
                    ⟨α, F', ρ2, z, ρ', E2, e3, fun w F3 H3 B => ⟨F3, d', f', r', B.er.sub, view_of B.er (r2.step d2 B.st) g1, view_of B.er B.rep g2, g3,
                      k _ F3 H3 (.after (st.trans B.st) (.of_made B.er (made_same B.er.sub (.bl _))))⟩⟩⟩
                · cases ev
              · cases ev
          · cases ev
        · cases ev
  have hx := pe_mono (pe_chain (pos := pos) (cpr_of (cpd_of ho hu)) (cpr_of (cpd_of hp hu)) (ha.o true) (hb.o true) (hc.o true) hm) go
  exact ⟨hx, fun m => pe_mono hx fun _ _ _ q => tI_of m rfl q, fun _ => pt_mono (pt_chain (cpr_of (cpd_of ho hu)) (cpr_of (cpd_of hp hu)) (ha.o true) (hb.o true) (hc.o true) hm) fun σ H Q q => go σ H _ (tT_of q), rfl⟩

/-! ### a[b] -/
theorem atI_rp {K : PySem.W.Frag} {F : Hp} {xs : List V} {ds : List PD} {i : Int} {d : PD} (q : RpAll K F xs ds) (h : atI ds i = some d) : ∃ v, atI xs i = some v ∧ Rp K F v d := by
  unfold atI at h ⊢
  rw [rpAll_len q]
  cases e : ixN ds.length i with
  | none => rw [e] at h; cases h
  | some j =>
    rw [e] at h
    exact rpAll_get q h
theorem dx_sub (ha : DX X C a ia) (hb : DX X C b ib) : DX X C (.Subscript a b pos) (.sub ia ib) := by
  refine .mk' (pe_mono (pe_ix ix_seq (ha.o true) (hb.o true) (tame_ix hb.tm)) fun σ H Q q => ?_) rfl rfl rfl
  obtain ⟨α, F, ρ, r, ρ', E, ev, k⟩ := q
  simp only [evX] at ev
  split at ev
  · cases ev
  · rename_i x ρ1 e1
    split at ev
    · cases ev
    · rename_i y ρ2 e2
      split at ev
      · rename_i d e f1 f2
        split at ev
        · rename_i r' f3
          cases ev
          refine pairI E e1 e2 fun v u F' H' E2 r1 r2 _ st => ?_
          have w1 := view_of E2 r1 f1
          have w2 := view_of E2 r2 f2
          have fin : ∀ z, Rp X.K F' z r' → Q z H' := fun z hz => k z F' H' (.after st (.of_made E2 (made_same E2.sub hz)))
          unfold subD at f3
          split at f3
          · obtain ⟨p, xs, rfl, h1, h2⟩ := w1.list E2.sub
            obtain ⟨z, h3, h4⟩ := atI_rp h2 f3
            exact .inl ⟨p, xs, _, z, rfl, w2.int, h1.sq, h3, fin z h4⟩
          · obtain ⟨p, xs, rfl, h1, h2⟩ := w1.tuple E2.sub
            obtain ⟨z, h3, h4⟩ := atI_rp h2 f3
            exact .inr (.inl ⟨p, xs, _, z, rfl, w2.int, h1, h3, fin z h4⟩)
          · rename_i zs i
            by_cases hz : zs.length ≤ sizeLine
            · rw [if_pos hz] at f3
              cases e3 : atI zs.cps.toList i with
              | none => rw [e3] at f3; cases f3
              | some ch =>
                rw [e3] at f3
                cases f3
                exact .inr (.inr ⟨zs, i, ch, w1.str, w2.int, hz, e3, fin _ (.str _)⟩)
            · rw [if_neg hz] at f3; cases f3
          · cases f3
        · cases ev
      · cases ev
end
end Dv

set_option Elab.async false
set_option linter.all false
set_option maxRecDepth 100000
set_option maxHeartbeats 4000000
/-! expressions: slices, displays, built-in calls -/
namespace Dv
open PySem PySem.Spec PyProof.Rows L2
structure AftL (K : PySem.W.Frag) (α : Nat → Addr) (O : Addr → Prop) (F H : Hp) (σ : L2.St) (ρ' : DEn) (xs : List Opd) (vs : List V) (F' H' : Hp) : Prop where
  er : ER K α F' H' ρ' σ
  rep : Paired (fun v x => RepO K F' H' σ v x) vs xs
  st : Stp O (OwnA ρ' σ) F H F' H'
def tL (K : PySem.W.Frag) (C : Cfg) (m : Bool) (ir : Ir) : TA := fun σ H Q => ∃ α F ρ xs ρ', ER K α F H ρ σ ∧ evL C m ir ρ = some (xs, ρ') ∧ ∀ vs F' H', AftL K α (OwnA ρ σ) F H σ ρ' xs vs F' H' → Q vs H'
def tP (K : PySem.W.Frag) (C : Cfg) (ir : Ir) : TO := fun σ H Q => ∃ α F ρ l ρ', ER K α F H ρ σ ∧ evP C ir ρ = some (l, ρ') ∧ ∀ F' H', ER K α F' H' ρ' σ → Stp (OwnA ρ σ) (OwnA ρ' σ) F H F' H' → Q l H'
section
variable {X : Cx} {C : Cfg} {a b c : Expr} {ia ib ic ir : Ir} {pos : Pos} {es : List Expr}
theorem po_mono {e : Option Expr} {t t' : TO} (h : PO X e t) (w : ∀ σ H Q, t' σ H Q → t σ H Q) : PO X e t' := ⟨fun pins s σ H Q I q => h.run pins s σ H Q I (w σ H Q q)⟩
theorem dp_none : PO X none (tP X.K C .nil) := po_mono po_none fun σ H Q q => by
  obtain ⟨α, F, ρ, l, ρ', E, ev, k⟩ := q
  simp only [evP] at ev
  cases ev
  exact k F H E .refl
theorem dp_some (ha : DX X C a ia) : PO X (some a) (tP X.K C (.cons ia ib)) := po_mono (po_some ha.x) fun σ H Q q => by
  obtain ⟨α, F, ρ, l, ρ', E, ev, k⟩ := q
  simp only [evP] at ev
  split at ev
  · rename_i i ρ1 e1
    cases ev
    exact ⟨α, F, ρ, _, ρ', E, e1, fun v F' H' A => ⟨i, int_rep A.rep, k F' H' A.er A.val⟩⟩
  · cases ev
theorem rpAll_cut {K : PySem.W.Frag} {F : Hp} {xs : List V} {ds : List PD} (q : RpAll K F xs ds) (lo hi : Option Int) : RpAll K F (cutV xs lo hi) (cutD ds lo hi) := by
  unfold cutV cutD
  rw [rpAll_len q]
  exact rpAll_take _ (rpAll_drop _ q)
theorem cutD_all {ds : List PD} {lo hi : Option Int} (h : HT.sIx ds.length 0 lo = 0 ∧ HT.sIx ds.length ds.length hi = ds.length) : cutD ds lo hi = ds := by
  unfold cutD
  rw [h.1, h.2, List.drop_zero, Nat.sub_zero, List.take_length]
theorem dx_slc {lo hi : Option Expr} {il ih : Ir} {p2 : Pos} (ha : DX X C a ia) (hl : PO X lo (tP X.K C il)) (hh : PO X hi (tP X.K C ih)) : DX X C (.Subscript a (.Slice lo hi none p2) pos) (.slc ia il ih) := by
  refine .mk' (pe_mono (pe_slice (sl_list.or sl_tupA) (ha.o true) hl hh) fun σ H Q q => ?_) rfl rfl rfl
  obtain ⟨α, F, ρ, r, ρ', E, ev, k⟩ := q
  simp only [evX] at ev
  split at ev
  · cases ev
  · rename_i x ρ1 e1
    split at ev
    · cases ev
    · rename_i l ρ2 e2
      split at ev
      · cases ev
      · rename_i h ρ3 e3
        split at ev
        · rename_i d f1
          split at ev
          · rename_i r' f2
            cases ev
            refine ⟨α, F, ρ, x, ρ1, E, e1, fun v F1 H1 A => ⟨α, F1, ρ1, l, ρ2, A.er, e2, fun F2 H2 E2 s2 => ⟨α, F2, ρ2, h, ρ', E2, e3, fun F3 H3 E3 s3 => ?_⟩⟩⟩
            have w1 := view_of E3 (A.rep.step A.dist (s2.trans s3)) f1
            have st := A.st.trans (s2.trans s3)
            have fin : ∀ z F' H', Made X.K F3 H3 r z F' H' → Q z H' := fun z F' H' M => k z F' H' (.after st (.of_made E3 M))
            unfold slD at f2
            split at f2
            · cases f2
              obtain ⟨p, xs, rfl, h1, h2⟩ := w1.list E3.sub
              exact .inl ⟨p, xs, rfl, h1.sq, fun q hq => fin _ _ _ (made_lst E3.sub hq (rpAll_cut h2 _ _))⟩
            · rename_i ds
              cases f2
              obtain ⟨p, xs, rfl, h1, h2⟩ := w1.tuple E3.sub
              refine .inr ⟨p, xs, rfl, h1, fun hw => ?_, fun hw q hq => fin _ _ _ (made_tup E3.sub hq (rpAll_cut h2 _ _))⟩
              rw [rpAll_len h2] at hw
              rw [cutD_all hw] at fin
              rcases w1 with w1 | ⟨_, _, _, _, z, _⟩
              · exact fin _ _ _ (made_same E3.sub w1)
              · cases z
            · cases f2
          · cases ev
        · cases ev
theorem dx_rev {k : Nat} {p1 p2 p3 : Pos} (ha : DX X C a ia) : DX X C (.Subscript a (.Slice none none (some (.UnaryOp .USub (.Constant (.int 1) k p1) p2)) p3) pos) (.rev ia) := by
  refine .mk' (pe_mono (pe_revL (ha.o true)) fun σ H Q q => ?_) rfl rfl rfl
  obtain ⟨α, F, ρ, r, ρ', E, ev, k⟩ := q
  simp only [evX] at ev
  split at ev
  · cases ev
  · rename_i x ρ1 e1
    split at ev
    · rename_i ds f1
      cases ev
      refine ⟨α, F, ρ, x, ρ', E, e1, fun v F1 H1 A => ?_⟩
      obtain ⟨p, xs, rfl, h1, h2⟩ := (view_of A.er A.rep f1).list A.er.sub
      exact ⟨p, xs, rfl, h1.sq, fun q hq => k _ _ _ (.after A.st (.of_made A.er (made_lst A.er.sub hq (rpAll_rev h2))))⟩
    · cases ev

/-! ### lists of expressions -/
def tames : List Expr → Bool
  | [] => true
  | e :: es => tame e && tames es
structure DL (X : Cx) (C : Cfg) (m : Bool) (es : List Expr) (ir : Ir) : Prop where
  a : PA X es (tL X.K C m ir)
  tm : tames es = true
theorem dl_nil {m : Bool} : DL X C m [] .nil := ⟨pa_mono pa_nil fun σ H Q q => by
  obtain ⟨α, F, ρ, l, ρ', E, ev, k⟩ := q
  simp only [evL] at ev
  cases ev
  exact k [] F H ⟨E, .nil, .refl⟩, rfl⟩
theorem dl_cons {m : Bool} (ha : PE X a (tI X.K C m ia)) (tm : tame a = true) (hr : DL X C m es ir) : DL X C m (a :: es) (.cons ia ir) := by
  refine ⟨pa_mono (pa_cons ha hr.a (tame_star tm es X.env)) fun σ H Q q => ?_, ?_⟩
  · obtain ⟨α, F, ρ, l, ρ', E, ev, k⟩ := q
    simp only [evL] at ev
    split at ev
    · cases ev
    · rename_i x ρ1 e1
      split at ev
      · cases ev
      · rename_i xs ρ2 e2
        cases ev
        exact ⟨α, F, ρ, x, ρ1, E, e1, fun v F1 H1 A => ⟨α, F1, ρ1, xs, ρ', A.er, e2, fun vs F2 H2 B => k _ F2 H2 ⟨B.er, .cons (A.rep.step A.dist B.st) B.rep, A.st.trans B.st⟩⟩⟩
  · unfold tames; rw [tm, hr.tm]; rfl
theorem tames_any {env : PySem.Env} {p : Pos} : ∀ {es : List Expr}, tames es = true → (backTo p (starEach es env)).any (·.1) = false
  | [], _ => rfl
  | e :: es, h => by
    have h' : tame e = true ∧ tames es = true := Bool.and_eq_true_iff.mp h
    rw [tame_star h'.1]
    show (false || (backTo p (starEach es env)).any (·.1)) = false
    rw [tames_any h'.2]; rfl
theorem vals_of {K : PySem.W.Frag} {F H : Hp} {σ : L2.St} : ∀ {vs : List V} {xs : List Opd} {ds : List PD}, Paired (fun v x => RepO K F H σ v x) vs xs → valsOf xs = some ds → RpAll K F vs ds
  | _, _, _, .nil, h => by
    simp only [valsOf] at h
    cases h; exact .nil
  | _, _, _, .cons (b := x) r t, h => by
    unfold valsOf at h
    split at h
    · rename_i z; cases z
    · rename_i d xs' z
      cases z
      split at h
      · rename_i ds' e
        cases h
        exact .cons r (vals_of t e)
      · cases h
    · cases h
theorem dx_tup {x1} (h : DL X C false es ir) : DX X C (.Tuple es x1 pos) (.tup ir) := by
  refine .mk' (pe_mono (pe_tup h.a) fun σ H Q q => ?_) rfl rfl rfl
  obtain ⟨α, F, ρ, r, ρ', E, ev, k⟩ := q
  simp only [evX] at ev
  split at ev
  · cases ev
  · rename_i xs ρ1 e1
    split at ev
    · rename_i ds f1
      obtain ⟨hc, e2⟩ := some_of_ite ev
      cases e2
      refine ⟨α, F, ρ, xs, ρ', E, e1, fun vs F1 H1 A => ?_⟩
      have w := vals_of A.rep f1
      exact ⟨by rw [rpAll_len w]; exact hc, fun p hp => k _ _ _ (.after A.st (.of_made A.er (made_tup A.er.sub hp w)))⟩
    · cases ev
theorem dx_lst (h : DL X C false es ir) : DX X C (.List es pos) (.lst ir) := by
  refine .mk' (pe_mono (pe_lst h.a) fun σ H Q q => ?_) rfl rfl rfl
  obtain ⟨α, F, ρ, r, ρ', E, ev, k⟩ := q
  simp only [evX] at ev
  split at ev
  · cases ev
  · rename_i xs ρ1 e1
    split at ev
    · rename_i ds f1
      obtain ⟨hc, e2⟩ := some_of_ite ev
      cases e2
      refine ⟨α, F, ρ, xs, ρ', E, e1, fun vs F1 H1 A => ?_⟩
      have w := vals_of A.rep f1
      exact ⟨by rw [rpAll_len w]; exact hc, fun p hp => k _ _ _ (.after A.st (.of_made A.er (made_lst A.er.sub hp w)))⟩
    · cases ev

/-! ### calls of built-ins -/
def CallD (X : Cx) (f : Value) (g : List PD → Option Slo) : Prop :=
  ∀ (pins : List (Addr × Obj)) (s : Shared) (σ : L2.St) (H : Hp) (vs : List V) (us : List Value) (Q : VK) (F : Hp) (ds : List PD) (r : Slo), Inv X pins σ H s → Vals vs us → Same F H → Paired (fun v d => Vp X.K F H v d) vs ds → g ds = some r →
    (∀ z F' H', Made X.K F H r z F' H' → Q z H') → wpAny (model X.prog X.w) X.A (call f us) (EP X pins σ Q) X.xe s
def rP (K : PySem.W.Frag) (g : List PD → Option Slo) : List V → Hp → VK → Prop := fun vs H Q => ∃ F ds r, Same F H ∧ Paired (fun v d => Vp K F H v d) vs ds ∧ g ds = some r ∧ ∀ z F' H', Made K F H r z F' H' → Q z H'
theorem callr_of {f : Value} {g : List PD → Option Slo} (h : CallD X f g) : CallR X f (rP X.K g) := fun pins s σ H vs us Q I r ⟨F, ds, r', sm, w, hg, q⟩ => h pins s σ H vs us Q F ds r' I r sm w hg q
theorem one_of {F H : Hp} {K : PySem.W.Frag} {vs : List V} {d : PD} (h : Paired (fun v d => Vp K F H v d) vs [d]) : ∃ v, vs = [v] ∧ Vp K F H v d := by
  cases h with
  | cons a t => cases t; exact ⟨_, rfl, a⟩
theorem two_of {F H : Hp} {K : PySem.W.Frag} {vs : List V} {d e : PD} (h : Paired (fun v d => Vp K F H v d) vs [d, e]) : ∃ v u, vs = [v, u] ∧ Vp K F H v d ∧ Vp K F H u e := by
  cases h with
  | cons a t =>
    obtain ⟨u, rfl, hu⟩ := one_of t
    exact ⟨_, _, rfl, a, hu⟩
theorem ints_of {K : PySem.W.Frag} {F : Hp} : ∀ {vs : List V} {ds : List PD} {ns : List Int}, RpAll K F vs ds → intsOf ds = some ns → vs = ns.map V.int
  | _, _, _, .nil, h => by simp only [intsOf] at h; cases h; rfl
  | _, _, _, .cons q t, h => by
    cases q <;> simp only [intsOf] at h <;> try cases h
    rename_i i
    cases e : intsOf _ with
    | none => rw [e] at h; cases h
    | some l =>
      rw [e] at h
      cases h
      rw [List.map_cons, ints_of t e]
theorem bools_of {K : PySem.W.Frag} {F : Hp} : ∀ {vs : List V} {ds : List PD} {ns : List Bool}, RpAll K F vs ds → boolsOf ds = some ns → vs = ns.map V.bl
  | _, _, _, .nil, h => by simp only [boolsOf] at h; cases h; rfl
  | _, _, _, .cons q t, h => by
    cases q <;> simp only [boolsOf] at h <;> try cases h
    rename_i i
    cases e : boolsOf _ with
    | none => rw [e] at h; cases h
    | some l =>
      rw [e] at h
      cases h
      rw [List.map_cons, bools_of t e]
theorem cd_len : CallD X (.builtin "len") (prD .len) := by
  intro pins s σ H vs us Q F ds r I rv sm w h q
  unfold prD at h
  split at h <;> try (first | cases h; done | (rename_i hb; cases hb; done))
  · cases h
    obtain ⟨v, rfl, w1⟩ := one_of w
    obtain ⟨a, xs, rfl, h1, h2⟩ := w1.list sm
    refine call_len_seq pins s σ H _ us Q I rv ⟨a, xs, rfl, .inl h1.sq, ?_⟩
    rw [rpAll_len h2]
    exact q _ _ _ (made_same sm (.int _))
  · cases h
    obtain ⟨v, rfl, w1⟩ := one_of w
    obtain ⟨a, xs, rfl, h1, h2⟩ := w1.tuple sm
    refine call_len_seq pins s σ H _ us Q I rv ⟨a, xs, rfl, .inr h1, ?_⟩
    rw [rpAll_len h2]
    exact q _ _ _ (made_same sm (.int _))
  · obtain ⟨hc, rfl⟩ := some_of_ite h
    obtain ⟨v, rfl, w1⟩ := one_of w
    rw [w1.str] at rv
    exact call_len_str pins s σ H _ us Q I rv ⟨_, rfl, hc, q _ _ _ (made_same sm (.int _))⟩
theorem cd_int : CallD X (.type "int") (prD .int) := by
  intro pins s σ H vs us Q F ds r I rv sm w h q
  unfold prD at h
  split at h <;> try (first | cases h; done | (rename_i hb; cases hb; done))
  · cases h
    obtain ⟨v, rfl, w1⟩ := one_of w
    rw [w1.int] at rv
    exact call_int1 pins s σ H _ us Q I rv (.inl ⟨_, rfl, q _ _ _ (made_same sm (.int _))⟩)
  · cases h
    obtain ⟨v, rfl, w1⟩ := one_of w
    rw [w1.bl] at rv
    exact call_int1 pins s σ H _ us Q I rv (.inr ⟨_, rfl, q _ _ _ (made_same sm (.int _))⟩)
theorem cd_str : CallD X (.type "str") (prD .str) := by
  intro pins s σ H vs us Q F ds r I rv sm w h q
  unfold prD at h
  split at h <;> try (first | cases h; done | (rename_i hb; cases hb; done))
  · obtain ⟨hc, rfl⟩ := some_of_ite h
    obtain ⟨v, rfl, w1⟩ := one_of w
    rw [w1.int] at rv
    exact call_str_int pins s σ H _ us Q I rv ⟨_, rfl, hc, q _ _ _ (made_same sm (.str _))⟩
  · cases h
    obtain ⟨v, rfl, w1⟩ := one_of w
    rw [w1.str] at rv
    exact SkE.call_str_str pins s σ H _ us Q I rv ⟨_, rfl, q _ _ _ (made_same sm (.str _))⟩
theorem cd_abs : CallD X (.builtin "abs") (prD .abs) := by
  intro pins s σ H vs us Q F ds r I rv sm w h q
  unfold prD at h
  split at h <;> try (first | cases h; done | (rename_i hb; cases hb; done))
  cases h
  obtain ⟨v, rfl, w1⟩ := one_of w
  rw [w1.int] at rv
  exact call_abs pins s σ H _ us Q I rv ⟨_, rfl, q _ _ _ (made_same sm (.int _))⟩
theorem cd_tuple : CallD X (.type "tuple") (prD .tuple) := by
  intro pins s σ H vs us Q F ds r I rv sm w h q
  unfold prD at h
  split at h <;> try (first | cases h; done | (rename_i hb; cases hb; done))
  · cases h
    obtain ⟨v, rfl, w1⟩ := one_of w
    obtain ⟨a, xs, rfl, h1, h2⟩ := w1.list sm
    exact call_tuple_of pins s σ H _ us Q I rv ⟨a, xs, rfl, .inl ⟨h1.sq, fun p hp => q _ _ _ (made_tup sm hp h2)⟩⟩
  · cases h
    obtain ⟨v, rfl, w1⟩ := one_of w
    obtain ⟨a, xs, rfl, h1, h2⟩ := w1.tuple sm
    refine call_tuple_of pins s σ H _ us Q I rv ⟨a, xs, rfl, .inr ⟨h1, ?_⟩⟩
    rcases w1 with w1 | ⟨_, _, _, _, z, _⟩
    · exact q _ _ _ (made_same sm w1)
    · cases z
theorem cd_list : CallD X (.type "list") (prD .list) := by
  intro pins s σ H vs us Q F ds r I rv sm w h q
  unfold prD at h
  split at h <;> try (first | cases h; done | (rename_i hb; cases hb; done))
  · cases h
    obtain ⟨v, rfl, w1⟩ := one_of w
    obtain ⟨a, xs, rfl, h1, h2⟩ := w1.list sm
    exact call_list_of pins s σ H _ us Q I rv ⟨a, xs, rfl, .inl h1.sq, fun p hp => q _ _ _ (made_lst sm hp h2)⟩
  · cases h
    obtain ⟨v, rfl, w1⟩ := one_of w
    obtain ⟨a, xs, rfl, h1, h2⟩ := w1.tuple sm
    exact call_list_of pins s σ H _ us Q I rv ⟨a, xs, rfl, .inr h1, fun p hp => q _ _ _ (made_lst sm hp h2)⟩
theorem cd_max (hc : X.calm = true) : CallD X (.builtin "max") (prD .max) := by
  intro pins s σ H vs us Q F ds r I rv sm w h q
  unfold prD at h
  split at h <;> try (first | cases h; done | (rename_i hb; cases hb; done))
  cases h
  obtain ⟨v, u, rfl, w1, w2⟩ := two_of w
  rw [w1.int, w2.int] at rv
  exact call_max2 hc pins s σ H _ us Q I rv ⟨_, _, rfl, q _ _ _ (made_same sm (.int _))⟩
theorem cd_min (hc : X.calm = true) : CallD X (.builtin "min") (prD .min) := by
  intro pins s σ H vs us Q F ds r I rv sm w h q
  unfold prD at h
  split at h <;> try (first | cases h; done | (rename_i hb; cases hb; done))
  cases h
  obtain ⟨v, u, rfl, w1, w2⟩ := two_of w
  rw [w1.int, w2.int] at rv
  exact call_min2 hc pins s σ H _ us Q I rv ⟨_, _, rfl, q _ _ _ (made_same sm (.int _))⟩
theorem cd_sum (hc : X.calm = true) : CallD X (.builtin "sum") (prD .sum) := by
  intro pins s σ H vs us Q F ds r I rv sm w h q
  unfold prD at h
  split at h <;> try (first | cases h; done | (rename_i hb; cases hb; done))
  rename_i ds _
  cases e : intsOf ds with
  | none => rw [e] at h; cases h
  | some ns =>
    rw [e] at h
    cases h
    obtain ⟨v, rfl, w1⟩ := one_of w
    obtain ⟨a, xs, rfl, h1, h2⟩ := w1.list sm
    have := ints_of h2 e
    subst this
    exact cr_sum hc pins s σ H _ us Q I rv ⟨a, ns, rfl, h1.sq, q _ _ _ (made_same sm (.int _))⟩
theorem cd_all (hc : X.calm = true) : CallD X (.builtin "all") (prD .all) := by
  intro pins s σ H vs us Q F ds r I rv sm w h q
  unfold prD at h
  split at h <;> try (first | cases h; done | (rename_i hb; cases hb; done))
  rename_i ds _
  cases e : boolsOf ds with
  | none => rw [e] at h; cases h
  | some ns =>
    rw [e] at h
    cases h
    obtain ⟨v, rfl, w1⟩ := one_of w
    obtain ⟨a, xs, rfl, h1, h2⟩ := w1.list sm
    have := bools_of h2 e
    subst this
    exact cr_all hc pins s σ H _ us Q I rv ⟨a, ns, rfl, h1.sq, q _ _ _ (made_same sm (.bl _))⟩
theorem paired_read {K : PySem.W.Frag} {α : Nat → Addr} {F H : Hp} {ρ : DEn} {σ : L2.St} (E : ER K α F H ρ σ) : ∀ {vs : List V} {xs : List Opd} {ds : List PD}, Paired (fun v x => RepO K F H σ v x) vs xs → rdAll ρ xs = some ds → Paired (fun v d => Vp K F H v d) vs ds
  | _, _, _, .nil, h => by simp only [rdAll] at h; cases h; exact .nil
  | _, _, _, .cons r t, h => by
    simp only [rdAll] at h
    split at h
    · rename_i d ds' e1 e2
      cases h
      exact .cons (view_of E r e1) (paired_read E t e2)
    · cases h
theorem cd_repr (hu : X.A.units + 128 < cLine) (gd : X.A.guards = some []) : CallD X (.builtin "repr") (prD .repr) := by
  intro pins s σ H vs us Q F ds r I rv sm w h q
  unfold prD at h
  split at h <;> try (first | cases h; done | (rename_i hb; cases hb; done))
  rename_i d _
  obtain ⟨⟨h1, h2, h3, h4⟩, rfl⟩ := some_of_ite h
  obtain ⟨v, rfl, w1⟩ := one_of w
  obtain ⟨u, rfl, ru⟩ := vals1 rv
  have fin : ∀ (t : Tok) (s' : Shared), Inv X pins σ H s' → EP X pins σ Q (.str d.shown t) s' := fun t s' I' => ⟨.str d.shown, H, I', ⟨_, rfl⟩, q _ _ _ (made_same sm (.str _))⟩
  have cont : ∀ a, v = .ref a → wpAny (model X.prog X.w) X.A (call (.builtin "repr") [u]) (EP X pins σ Q) X.xe s := fun a e => by
    subst e
    cases ru
    obtain ⟨as, rd⟩ := Dp.reads I d _ _ (w1.dp sm) rfl
    exact repr_of_reads' rd h1 (PySem.PyData.noDict_hsm h2) gd (by omega) (fun _ _ e => e) (fun h' u tk kp => fin u _ (I.kept kp)) h3
  cases d with
  | none =>
    rw [w1.non] at ru
    cases ru
    simp only [PyData.shown] at fin
    exact PySem.P.repr_of_none (fin _ _ (I.tok _))
  | bool b =>
    rw [w1.bl] at ru
    cases ru
    simp only [PyData.shown] at fin
    exact PySem.P.repr_of_bool (fin _ _ (I.tok _))
  | int i =>
    rw [w1.int] at ru
    obtain ⟨t, rfl⟩ := ru
    simp only [PyData.shown] at fin
    exact PySem.P.repr_of_int (by simpa [PyData.showable] using h1) (fin _ _ (I.tok _))
  | str x =>
    rw [w1.str] at ru
    obtain ⟨t, rfl⟩ := ru
    simp only [PyData.shown] at fin h3
    exact PySem.P.repr_of_str (fin _ _ (I.tok _)) h3
  | list es =>
    obtain ⟨a, xs, rfl, _⟩ := w1.list sm
    exact cont a rfl
  | tuple es =>
    obtain ⟨a, xs, rfl, _⟩ := w1.tuple sm
    exact cont a rfl
  | dict es => cases h2
/-- the built-ins by name -/
def prOf (x : Str) : Option Pr :=
  if x = "len" then some .len else if x = "int" then some .int else if x = "str" then some .str else if x = "abs" then some .abs else if x = "tuple" then some .tuple else
  if x = "list" then some .list else if x = "max" then some .max else if x = "min" then some .min else if x = "sum" then some .sum else if x = "all" then some .all else if x = "repr" then some .repr else none
theorem prim_weak {p : Pr} {σ : L2.St} {H : Hp} {Q : VK} {K : PySem.W.Frag} (q : tX K C (.prim p ir) σ H Q) : tCB (rP K (prD p)) (tL K C true ir) σ H Q := by
  obtain ⟨α, F, ρ, r, ρ', E, ev, k⟩ := q
  simp only [evX] at ev
  split at ev
  · cases ev
  · rename_i xs ρ1 e1
    split at ev
    · cases ev
    · rename_i ds f1
      split at ev
      · rename_i r' f2
        cases ev
        exact ⟨α, F, ρ, xs, ρ', E, e1, fun vs F1 H1 A => ⟨F1, ds, r, A.er.sub, paired_read A.er A.rep f1, f2, fun z F' H' M => k z F' H' (.after A.st (.of_made A.er M))⟩⟩
      · cases ev
theorem dx_prim {x : Str} {p : Pr} {e : Expr} {np : Pos} (hp : prOf x = some p) (hc : X.calm = true) (hu : X.A.units + 128 < cLine) (gd : X.A.guards = some []) (hg : Gl X x) (hm : X.mg x = none) (h : DL X C true (e :: es) ir) : DX X C (.Call (.Name x np) (e :: es) [] pos) (.prim p ir) := by
  have h1 : tame e = true ∧ tames es = true := Bool.and_eq_true_iff.mp h.tm
  have s1 := tame_star h1.1 es X.env
  have s2 := tames_any (env := X.env) (p := pos) h1.2
  refine .mk' ?_ rfl rfl rfl
  have go : ∀ (f : Value), bootBuiltins x = some f → (∃ id, f = .builtin id) ∨ (∃ T, f = .type T) → CallD X f (prD p) → x ≠ "__name__" → (x == ("__debug__" : Str)) = false → PE X (.Call (.Name x np) (e :: es) [] pos) (tX X.K C (.prim p ir)) := by
    intro f hb hf hd hn hdb
    rcases hf with ⟨id, rfl⟩ | ⟨T, rfl⟩
    · exact pe_mono (pe_callB (callr_of hd) hg hm hb h.a hn hdb s1 s2) fun σ H Q q => prim_weak q
    · exact pe_mono (pe_callTy (callr_of hd) hg hm hb h.a hn hdb s1 s2) fun σ H Q q => prim_weak q
  unfold prOf at hp
  by_cases c1 : x = "len"
  · subst c1; rw [if_pos rfl] at hp; cases hp; exact go _ (by decide +kernel) (.inl ⟨_, rfl⟩) cd_len (by decide) (by decide)
  rw [if_neg c1] at hp
  by_cases c1 : x = "int"
  · subst c1; rw [if_pos rfl] at hp; cases hp; exact go _ (by decide +kernel) (.inr ⟨_, rfl⟩) cd_int (by decide) (by decide)
  rw [if_neg c1] at hp
  by_cases c1 : x = "str"
  · subst c1; rw [if_pos rfl] at hp; cases hp; exact go _ (by decide +kernel) (.inr ⟨_, rfl⟩) cd_str (by decide) (by decide)
  rw [if_neg c1] at hp
  by_cases c1 : x = "abs"
  · subst c1; rw [if_pos rfl] at hp; cases hp; exact go _ (by decide +kernel) (.inl ⟨_, rfl⟩) cd_abs (by decide) (by decide)
  rw [if_neg c1] at hp
  by_cases c1 : x = "tuple"
  · subst c1; rw [if_pos rfl] at hp; cases hp; exact go _ (by decide +kernel) (.inr ⟨_, rfl⟩) cd_tuple (by decide) (by decide)
  rw [if_neg c1] at hp
  by_cases c1 : x = "list"
  · subst c1; rw [if_pos rfl] at hp; cases hp; exact go _ (by decide +kernel) (.inr ⟨_, rfl⟩) cd_list (by decide) (by decide)
  rw [if_neg c1] at hp
  by_cases c1 : x = "max"
  · subst c1; rw [if_pos rfl] at hp; cases hp; exact go _ (by decide +kernel) (.inl ⟨_, rfl⟩) (cd_max hc) (by decide) (by decide)
  rw [if_neg c1] at hp
  by_cases c1 : x = "min"
  · subst c1; rw [if_pos rfl] at hp; cases hp; exact go _ (by decide +kernel) (.inl ⟨_, rfl⟩) (cd_min hc) (by decide) (by decide)
  rw [if_neg c1] at hp
  by_cases c1 : x = "sum"
  · subst c1; rw [if_pos rfl] at hp; cases hp; exact go _ (by decide +kernel) (.inl ⟨_, rfl⟩) (cd_sum hc) (by decide) (by decide)
  rw [if_neg c1] at hp
  by_cases c1 : x = "all"
  · subst c1; rw [if_pos rfl] at hp; cases hp; exact go _ (by decide +kernel) (.inl ⟨_, rfl⟩) (cd_all hc) (by decide) (by decide)
  rw [if_neg c1] at hp
  by_cases c1 : x = "repr"
  · subst c1; rw [if_pos rfl] at hp; cases hp; exact go _ (by decide +kernel) (.inl ⟨_, rfl⟩) (cd_repr hu gd) (by decide) (by decide)
  rw [if_neg c1] at hp
  cases hp
end
end Dv

set_option Elab.async false
set_option linter.all false
set_option maxRecDepth 100000
set_option maxHeartbeats 4000000
/-! owned lists are changed -/
namespace Dv
open PySem PySem.Spec PyProof.Rows L2
section
open PySem.SeqAt PySem.AutoSeq1
/-- list.extend with any tuple -/
theorem ext_any (l b : Addr) (xs ys : Array Value) (n k : Nat) (dd : Option Addr) (sl : Array (Option Value))
    (h0 : ¬(!xs.isEmpty && Builtin.List.listTooLong (xs.size + ys.size)) = true) (h1 : xs.size ≤ sizeLine) (h2 : xs.size + ys.size ≤ sizeLine + 1) :
    Meets (Builtin.«list.extend» ⟨[.ref l, .ref b], []⟩)
      (fun _ R s => s.heap.get? l = some { cls := .type "list", data := .seq xs n } ∧ s.heap.get? b = some { cls := .type "tuple", dict := dd, data := .seq ys k, slots := sl } ∧
        R (.ok (.ret Value.none)) { s with heap := s.heap.update l (Obj.mapSeq fun x => x ++ ys), toks := s.toks }) :=
  .of_wp fun prog w A R s h => by
    obtain ⟨hp, g, d, tk, os⟩ := s
    obtain ⟨hl, hb, h⟩ := h
    have f1 := idx_int
    have f2 := AutoSeq1.sub_tuple_tuple
    have f3 := AutoSeq1.sub_list_list
    have f4 := AutoSeq1.sub_tuple_list
    have f5 := AutoSeq1.sub_list_tuple
    have hz' : (xs ++ ys).size ≤ sizeLine + 1 := by rw [Array.size_append]; exact h2
    wp_walk using (wpAny_updateSeq hl rfl (hz := h1) (_hz' := hz')), wpAny_loadPart' hl, wpAny_loadPart' hb
    exact ⟨_, rfl, h⟩
end
section
variable {K : PySem.W.Frag}
/-- the owned list at a slot is another one now -/
theorem ER.write {α : Nat → Addr} {F H : Hp} {ρ : DEn} {σ : L2.St} {i : Nat} {p : Option Nat} {ds ds' : List PD} {a : Addr} {xs' : List V} (E : ER K α F H ρ σ) (h : ρ[i]? = some (Slo.own p ds)) (ha : σ[i]? = some (some (V.ref a))) (q : RpAll K F xs' ds') :
    ER K α F (upd H a (.lst xs')) (ρ.set i (.own p ds')) σ ∧ Stp (OwnA ρ σ) (OwnA (ρ.set i (.own p ds')) σ) F H F (upd H a (.lst xs')) := by
  obtain ⟨a', xs, h1, h2, h3, h4, h5⟩ := E.own i p ds h
  rw [ha] at h1
  cases h1
  have hi : i < ρ.length := (List.getElem?_eq_some_iff.mp h).1
  have hin : ∀ (j : Nat) (q : Option Nat) (es : List PD), (ρ.set i (.own p ds'))[j]? = some (Slo.own q es) → (j = i ∧ q = p ∧ es = ds') ∨ (j ≠ i ∧ ρ[j]? = some (Slo.own q es)) := fun j q es e => by
    by_cases c : j = i
    · subst c; rw [List.getElem?_set_self hi] at e; cases e; exact .inl ⟨rfl, rfl, rfl⟩
    · rw [List.getElem?_set_ne (Ne.symm c)] at e; exact .inr ⟨c, e⟩
  have back : ∀ (j : Nat) (q : Option Nat) (es : List PD), (ρ.set i (.own p ds'))[j]? = some (Slo.own q es) → ∃ es', ρ[j]? = some (Slo.own q es') := fun j q es e => by
    rcases hin j q es e with ⟨rfl, rfl, rfl⟩ | ⟨_, e⟩
    · exact ⟨_, h⟩
    · exact ⟨_, e⟩
  refine ⟨⟨fun b o e => ?_, by rw [List.length_set]; exact E.len, fun j d e => ?_, fun j q' es e => ?_, fun j k q q' es es' n e1 e2 => ?_⟩, Same.refl _, fun b o e n => ?_, fun b o _ _ f => f, fun b z => ?_, fun b o e => ?_⟩
  · rw [upd_ne]
    · exact E.sub b o e
    · rintro rfl; rw [h3] at e; cases e
  · by_cases c : j = i
    · subst c; rw [List.getElem?_set_self hi] at e; cases e
    · rw [List.getElem?_set_ne (Ne.symm c)] at e
      exact E.val j d e
  · rcases hin j q' es e with ⟨rfl, rfl, rfl⟩ | ⟨c, e⟩
    · exact ⟨a, xs', ha, upd_same, h3, q, h5⟩
    · obtain ⟨b, ys, k1, k2, k3, k4, k5⟩ := E.own j q' es e
      refine ⟨b, ys, k1, ?_, k3, k4, k5⟩
      rw [upd_ne]
      · exact k2
      · rintro rfl
        exact E.inj j i q' p es ds c e h (by rw [k1, ha])
  · obtain ⟨_, e1⟩ := back _ _ _ e1
    obtain ⟨_, e2⟩ := back _ _ _ e2
    exact E.inj j k q q' _ _ n e1 e2
  · rw [upd_ne]
    · exact e
    · rintro rfl; exact n ⟨i, p, ds, h, ha⟩
  · obtain ⟨j, q', es, e1, e2⟩ := z
    obtain ⟨_, e1⟩ := back _ _ _ e1
    exact .inl ⟨j, q', _, e1, e2⟩
  · by_cases c : b = a
    · subst c; exact ⟨_, upd_same⟩
    · exact ⟨o, by rw [upd_ne c]; exact e⟩
end
section
variable {X : Cx} {C : Cfg} {a b c : Expr} {ia ib ic ir : Ir} {pos : Pos} {es : List Expr}
theorem few1 {e : Expr} (h : tame e = true) (p : Pos) (env : PySem.Env) : ((backTo p (starEach [e] env)).all (fun x => !x.1) && (backToKw p (keywordEach [] env)).all (fun x => x.1.isSome)
      && decide ([e].length + ([] : List Keyword).length + (if ([] : List Keyword).isEmpty then 0 else 1) < 30)) = true := by
  rw [tame_star h]; rfl
theorem dx_app {i : Nat} {x : Str} {e : Expr} {ie : Ir} {np apos : Pos} (hv : PE X (.Name x np) (tVar i)) (he : DX X C e ie) (hline : (apos.endLine == pos.line) = true) : DX X C (.Call (.Attribute (.Name x np) "append" apos) [e] [] pos) (.app i ie) := by
  have s1 := tame_star he.tm [] X.env
  refine .mk' (pe_mono (pe_bm PySem.F.plainAttrs_list PySem.F.slot_list_append PySem.F.type_list_append mt_append hv (pa_cons (he.o false) pa_nil s1) rfl (few1 he.tm pos X.env) hline s1 rfl) fun σ H Q q => ?_) rfl rfl rfl
  obtain ⟨α, F, ρ, r, ρ', E, ev, k⟩ := q
  simp only [evX] at ev
  split at ev
  · rename_i p0 ds0 e0
    split at ev
    · rename_i d ρ1 e1
      split at ev
      · rename_i p ds e2
        obtain ⟨hc, e3⟩ := some_of_ite ev
        cases e3
        obtain ⟨a0, xs0, h1, h2, h3, h4, _⟩ := E.own i p0 ds0 e0
        refine ⟨.ref a0, h1, .inl ⟨rfl, xs0, .of h2⟩, α, F, ρ, _, ρ1, E, e1, fun v F1 H1 A => ?_⟩
        obtain ⟨a1, xs1, k1, k2, k3, k4, _⟩ := A.er.own i p ds e2
        rw [h1] at k1
        cases k1
        have w : Rp X.K F1 v d := A.rep
        obtain ⟨E', st⟩ := A.er.write e2 h1 (rpAll_app k4 (.cons w .nil))
        refine ⟨a0, xs1, v, rfl, rfl, k2, by rw [rpAll_len k4]; exact hc, k _ F1 _ (.after (A.st.trans st) (.of_made E' (made_same E'.sub .non)))⟩
      · cases ev
    · cases ev
  · cases ev
theorem mt_ext_tup {l b : Addr} {xs zs : List V} {pins : List (Addr × Obj)} {s : Shared} {σ : L2.St} {H : Hp} {Q : VK} (I : Inv X pins σ H s) (hH : H l = some (.lst xs)) (hB : SqT X.K H b zs) (hz : xs.length + zs.length ≤ sizeLine)
    (q : Q .non (upd H l (.lst (xs ++ zs)))) : wpAny (model X.prog X.w) X.A (call (.builtin "list.extend") [.ref l, .ref b]) (EP X pins σ Q) X.xe s := by
  obtain ⟨z, its, n, r, hl, e⟩ := I.lstM hH
  obtain ⟨its2, r2, ⟨o2, e2, c2, n2, d2⟩, _⟩ := I.tuple hB
  obtain ⟨cls2, dd2, data2, sl2⟩ := o2
  simp only at c2 d2
  subst c2 d2
  have hl2 := r2.length
  have hsz : its.toArray.size + its2.toArray.size ≤ sizeLine := by rw [List.size_toArray, List.size_toArray]; omega
  have h0 : ¬(!its.toArray.isEmpty && Builtin.List.listTooLong (its.toArray.size + its2.toArray.size)) = true := by rw [notLongL hsz, Bool.and_false]; decide
  refine call_meets PySem.F.slot_list_extend ⟨_, e, rfl⟩ PySem.F.entry_list_extend (PySem.F.args_list_extend_2 _ _) (ext_any l b its.toArray its2.toArray n n2 dd2 sl2 h0 (by rw [List.size_toArray]; omega) (by omega)) ⟨e, e2, ?_⟩
  exact ⟨.non, _, I.lset (its' := its ++ its2) hH e (by simp) (r.append r2) (by rw [List.length_append]; omega), rfl, q⟩
theorem mt_ext_ls {l b : Addr} {xs zs : List V} {pins : List (Addr × Obj)} {s : Shared} {σ : L2.St} {H : Hp} {Q : VK} (I : Inv X pins σ H s) (hH : H l = some (.lst xs)) (hB : LsR X.K H b zs) (hz : xs.length + zs.length ≤ sizeLine)
    (q : Q .non (upd H l (.lst (xs ++ zs)))) : wpAny (model X.prog X.w) X.A (call (.builtin "list.extend") [.ref l, .ref b]) (EP X pins σ Q) X.xe s := by
  obtain ⟨z, its, n, r, hl, e⟩ := I.lstM hH
  obtain ⟨z2, its2, n2, r2, e2⟩ := hB.exact I
  have hl2 := r2.length
  have hsz : its.toArray.size + its2.toArray.size ≤ sizeLine := by rw [List.size_toArray, List.size_toArray]; omega
  have h0 : ¬(!its.toArray.isEmpty && Builtin.List.listTooLong (its.toArray.size + its2.toArray.size)) = true := by rw [notLongL hsz, Bool.and_false]; decide
  refine call_meets PySem.F.slot_list_extend ⟨_, e, rfl⟩ PySem.F.entry_list_extend (PySem.F.args_list_extend_2 _ _) (AutoSeq1.list_extend_list_list_0 l its.toArray n b its2.toArray n2 h0 (by rw [List.size_toArray]; omega) (by omega)) ⟨e, e2, ?_⟩
  exact ⟨.non, _, I.lset (its' := its ++ its2) hH e (by simp) (r.append r2) (by rw [List.length_append]; omega), rfl, q⟩
/-- extend with a list or a tuple -/
def rExtA (K : PySem.W.Frag) : V → List V → Hp → VK → Prop := fun x vs H Q => ∃ l b xs zs, x = .ref l ∧ vs = [.ref b] ∧ H l = some (.lst xs) ∧ (LsR K H b zs ∨ SqT K H b zs) ∧ xs.length + zs.length ≤ sizeLine ∧ Q .non (upd H l (.lst (xs ++ zs)))
theorem mt_extA : MtR X "list.extend" (rExtA X.K) := by
  intro pins s σ H x vs v us Q I rx rv h
  obtain ⟨l, b, xs, zs, rfl, rfl, hH, hB, hz, q⟩ := h
  cases rx
  obtain ⟨u, rfl, ru⟩ := rv.one
  cases ru
  rcases hB with hB | hB
  · exact mt_ext_ls I hH hB hz q
  · exact mt_ext_tup I hH hB hz q
theorem dx_ext {i : Nat} {x : Str} {e : Expr} {ie : Ir} {np apos : Pos} (hv : PE X (.Name x np) (tVar i)) (he : DX X C e ie) (hline : (apos.endLine == pos.line) = true) : DX X C (.Call (.Attribute (.Name x np) "extend" apos) [e] [] pos) (.ext i ie) := by
  have s1 := tame_star he.tm [] X.env
  refine .mk' (pe_mono (pe_bm PySem.F.plainAttrs_list PySem.F.slot_list_extend PySem.F.type_list_extend mt_extA hv (pa_cons (he.o false) pa_nil s1) rfl (few1 he.tm pos X.env) hline s1 rfl) fun σ H Q q => ?_) rfl rfl rfl
  obtain ⟨α, F, ρ, r, ρ', E, ev, k⟩ := q
  simp only [evX] at ev
  split at ev
  · rename_i p0 ds0 e0
    split at ev
    · rename_i d ρ1 e1
      split at ev
      · rename_i p ds e2
        split at ev
        · rename_i es e4
          obtain ⟨hc, e3⟩ := some_of_ite ev
          cases e3
          obtain ⟨a0, xs0, h1, h2, h3, h4, _⟩ := E.own i p0 ds0 e0
          refine ⟨.ref a0, h1, .inl ⟨rfl, xs0, .of h2⟩, α, F, ρ, _, ρ1, E, e1, fun v F1 H1 A => ?_⟩
          obtain ⟨a1, xs1, k1, k2, k3, k4, _⟩ := A.er.own i p ds e2
          rw [h1] at k1
          cases k1
          have w : Rp X.K F1 v d := A.rep
          obtain ⟨b, zs, rfl, w1, w2⟩ : ∃ b zs, v = .ref b ∧ (LsR X.K H1 b zs ∨ SqT X.K H1 b zs) ∧ RpAll X.K F1 zs es := by
            unfold seqD at e4
            split at e4
            · cases e4
              cases w with
              | lst w1 w2 => exact ⟨_, _, rfl, .inl (ls_mono A.er.sub w1), w2⟩
            · cases e4
              cases w with
              | tup w1 w2 => exact ⟨_, _, rfl, .inr (sqt_mono A.er.sub w1), w2⟩
            · cases e4
          obtain ⟨E', st⟩ := A.er.write e2 h1 (rpAll_app k4 w2)
          refine ⟨a0, b, xs1, zs, rfl, rfl, k2, w1, by rw [rpAll_len k4, rpAll_len w2]; exact hc, k _ F1 _ (.after (A.st.trans st) (.of_made E' (made_same E'.sub .non)))⟩
        · cases ev
      · cases ev
    · cases ev
  · cases ev
theorem dx_pop {i : Nat} {x : Str} {np apos : Pos} (hv : PE X (.Name x np) (tVar i)) (hline : (apos.endLine == pos.line) = true) : DX X C (.Call (.Attribute (.Name x np) "pop" apos) [] [] pos) (.pop i) := by
  refine .mk' (pe_mono (pe_bm0 PySem.F.plainAttrs_list PySem.F.slot_list_pop PySem.F.type_list_pop mt_pop hv rfl hline) fun σ H Q q => ?_) rfl rfl rfl
  obtain ⟨α, F, ρ, r, ρ', E, ev, k⟩ := q
  simp only [evX] at ev
  split at ev
  · rename_i p ds e0
    split at ev
    · rename_i d e1
      cases ev
      obtain ⟨a0, xs0, h1, h2, h3, h4, _⟩ := E.own i p ds e0
      obtain ⟨v, g1, g2⟩ := rpAll_get h4 e1
      obtain ⟨E', st⟩ := E.write e0 h1 (rpAll_dropLast h4)
      exact ⟨.ref a0, h1, .inl ⟨rfl, xs0, .of h2⟩, a0, xs0, v, rfl, rfl, h2, by rw [rpAll_len h4]; exact g1, k v F _ (.after st (.of_made E' (made_same E'.sub g2)))⟩
    · cases ev
  · cases ev
end
end Dv

set_option Elab.async false
set_option linter.all false
set_option maxRecDepth 100000
set_option maxHeartbeats 8000000
/-! promises of defs where no repr is under way -/
namespace Dv
open PySem PySem.Spec PyProof.Rows L2
/-- a def keeps its promise, called while nothing is being shown -/
structure FnG (P : Program) (w : World) (K : PySem.W.Frag) (mg : Str → Option Value) (base : Heap) (k : Nat) (f : Addr) (fd : FuncData) (ps : List Str) (sp : Sp) : Prop where
  len : ∀ vs H Q E, sp vs H Q E → vs.length = ps.length
  run : ∀ (A : Around) (fr : List PySem.Env) (s : Shared) (H : Hp) (as : Args) (us : List Value) (vs : List V) (Q : VK) (E : XK), Room k A → A.guards = some [] →
    Env0 P w K mg base A fr s H → BindsTo s fd as (ps.zip us) → Vals vs us → sp vs H Q E → codeAny (model P w) A (.call (.ref f) as) (CR CX0 fr P w H s Q E) s
section
variable {X : Cx} {k : Nat} {f : Addr} {fd : FuncData} {ps : List Str} {sp : Sp} {x : Str} {p pos : Pos} {e : Expr} {es : List Expr} {t : TA}
theorem run_G {pins : List (Addr × Obj)} {σ : L2.St} {H : Hp} {s : Shared} {Q : VK} {us : List Value} {vs : List V} (F : FnG X.prog X.w X.K X.mg X.base k f fd ps sp) (hr : Room k X.A) (gd : X.A.guards = some []) (hb : Binds X.K fd ps [])
    (I : Inv X pins σ H s) (r : Vals vs us) (h : sp vs H Q E0) : wpAny (model X.prog X.w) X.A (call (.ref f) us) (EP X pins σ Q) X.xe s := by
  have hl : us.length = ps.length := r.length.symm.trans (F.len _ _ _ _ h)
  have hb1 := hb s us I.kIn (by rw [List.append_nil]; exact hl)
  rw [List.append_nil] at hb1
  refine wpAny_call (codeAny_mono (F.run X.A X.stack s H ⟨us, []⟩ us vs Q E0 hr gd I.env0 hb1 r h) ?_)
  intro res s' hq
  match res, hq with
  | .error _, hq => exact hq.elim
  | .ok (.ret u), hq => exact I.after hq
  | .ok .next, hq => exact hq.elim
  | .ok .brk, hq => exact hq.elim
  | .ok .cont, hq => exact hq.elim
theorem pe_G (F : FnG X.prog X.w X.K X.mg X.base k f fd ps sp) (hr : Room k X.A) (gd : X.A.guards = some []) (hg : Gl X x) (hm : X.mg x = some (.ref f)) (hk : PySem.W.keepIn X.K (.ref f) = true) (hb : Binds X.K fd ps [])
    (ha : PA X (e :: es) t) (hdb : (x == ("__debug__" : Str)) = false) (he : starEach (e :: es) X.env = (false, eval e X.env) :: starEach es X.env) (hpl : (backTo pos (starEach es X.env)).any (·.1) = false) :
    PE X (.Call (.Name x p) (e :: es) [] pos) (fun σ H Q => t σ H fun vs H1 => sp vs H1 Q E0) :=
  ⟨fun pins s σ H Q I h => wpAny_Call_Name_kw (ld_glob I hg hm (PySem.W.callWith_K (h₀ := X.base) I.ok.mod.kin hk (thn (ha.run pos pins s σ H _ I h) fun us s1 q => by
    obtain ⟨vs, H1, I1, r, q⟩ := q
    exact ⟨I1.kIn, run_G F hr gd hb I1 r q⟩) he hpl) hdb)⟩
theorem pe_G0 (F : FnG X.prog X.w X.K X.mg X.base k f fd ps sp) (hr : Room k X.A) (gd : X.A.guards = some []) (hg : Gl X x) (hm : X.mg x = some (.ref f)) (hk : PySem.W.keepIn X.K (.ref f) = true) (hb : Binds X.K fd ps [])
    (hdb : (x == ("__debug__" : Str)) = false) : PE X (.Call (.Name x p) [] [] pos) (fun _ H Q => sp [] H Q E0) :=
  ⟨fun pins s σ H Q I h => wpAny_Call_Name_kw (ld_glob I hg hm (PySem.W.callWith_K0 I.kIn hk (run_G (us := []) F hr gd hb I .nil h)) hdb)⟩
end
/-- a def's promise from its body -/
theorem fnG_of {P : Program} {w : World} {K : PySem.W.Frag} {mg : Str → Option Value} {base : Heap} {x qual : Str} {st : Stmt} {f : Addr} {fd : FuncData} {N ps : List Str} {k : Nat} {sp : Sp} (Fn : Fun K x qual st f fd) (S : FnScope N ps (defScope st))
    (len : ∀ vs H Q E, sp vs H Q E → vs.length = ps.length)
    (hb : ∀ (cdv : Value) (A : Around) (fr : List PySem.Env) (s : Shared) (H : Hp) (vs : List V) (Q : VK) (E : XK), Room k (A.deeper (envOfC qual (defScope st) s.heap.objs.size f cdv)) → A.guards = some [] → sp vs H Q E →
      ∃ t, PSs (cxOf CX0 P w K mg base N qual (defScope st) f cdv A fr s H E).nox (defBody st) t ∧ t { nx := fun _ H' => Q .non H', rt := Q } (L2.start N vs) H) : FnG P w K mg base (k + 1) f fd ps sp := by
  obtain ⟨oc, od, kV, doc, pm, an, cdv, ct, osl, rfl, lk, hcd⟩ := Fn.ex
  refine ⟨len, fun A fr s H as us vs Q E hr gd e0 bd r hsp => ?_⟩
  have up : ∀ b o, base.get? b = some o → s.heap.get? b = some o := fun b o e => (e0.bs b o e).1
  have kin : K.In s.heap := e0.mod.kin.keeps up
  have par : ∀ y ∈ ps.zip us, (defScope st).names.lookup y.1 = some .local ∨ ((defScope st).names.lookup y.1 = some .cell ∧ ((cellsFrom (s.heap.objs.size + 1) (defScope st).names []).lookup y.1).isSome = true) := by
    intro y hy
    rcases S.par y.1 (List.of_mem_zip hy).1 with q | q
    · exact Or.inl q
    · exact Or.inr ⟨q, PySem.W.cellsFrom_some _ _ _ (Or.inl q)⟩
  refine codeAny_call_function hr.depth (kin _ _ lk) rfl S.co S.gen rfl (PySem.W.codeRec_of kin hcd) (bd _ _ _ _ (wpAny_newFunctionEnv_cells S.kind par ?_))
  intro env he s1 hx
  subst he
  refine ⟨(e0.mod.nolimit.keeps up).keeps hx.toInCall.keep, codeAny_func ?_⟩
  obtain ⟨t, ht, hq⟩ := hb cdv A fr s H vs Q E (hr.deeper _) gd hsp
  have J := inv_start (CX := CX0) (E := E) S hr.hd e0 (len _ _ _ _ hsp) r hx
  refine wpAny_mono (ht.nox.run [] s1 (L2.start N vs) H _ J hq) ?_ fun _ _ z => z
  intro fl s' hs
  match fl, hs with
  | .ret u, hs =>
    obtain ⟨v, σ', H', J', rv, q⟩ := hs
    exact ⟨v, H', J'.os, J'.bare, J'.base, J'.hok, rv, q⟩
  | .next, hs =>
    obtain ⟨σ', H', J', q⟩ := hs
    exact ⟨.non, H', J'.os, J'.bare, J'.base, J'.hok, rfl, q⟩
  | .brk, hs =>
    obtain ⟨_, _, _, q⟩ := hs
    exact q.elim
  | .cont, hs =>
    obtain ⟨_, _, _, q⟩ := hs
    exact q.elim

/-! ### the law is called -/
/-- what the law's def is to promise: True, whatever the script -/
def Wins (K : PySem.W.Frag) (sp : Sp) : Prop := ∀ (H : Hp) (a : Addr) (ns : List Int), ns.length ≤ 63 → LsR K H a (ns.map V.int) → sp [.ref a] H (fun v _ => v = .bl true) E0
theorem law_G {P : Program} {w : World} {K : PySem.W.Frag} {mg mb : Str → Option Value} {k : Nat} {fa a : Addr} {fd : FuncData} {x : Str} {sp : Sp} {s : Shared} {vs : List Value} {ns : List Int}
    (KX : K.In s.heap) (hns : s.heap.Ns mainGlobals mg) (hb : s.heap.Ns builtinsNs mb) (hbb : ∀ y : Str, y ≠ "__name__" → mb y = bootBuiltins y) (lim : s.heap.NoLimit) (hg : s.gens = #[])
    (ha : s.heap.get? a = some { cls := .type "list", data := .seq vs.toArray }) (hi : IntsAre vs ns) (hl : ns.length ≤ 63) (hr : Room k callerA)
    (F : ∀ base : Heap, K.In base → base.Ns mainGlobals mg → FnG P w K mg base k fa fd [x] sp) (bd : ∀ (s : Shared) (u : Value), BindsTo s fd ⟨[u], []⟩ [(x, u)]) (win : Wins K sp) :
    codeAny (model P w) callerA (.call (.ref fa) ⟨[.ref a], []⟩) (fun r s' => r = .ok (.ret (.bool true)) ∧ OldK s.heap s'.heap ∧ s'.os = s.os ∧ AllBare s'.gens) s := by
  have rv := vals_ints hi
  have l63 : (63 : Nat) ≤ sizeLine := by decide
  have nlen : (ns.map V.int).length ≤ sizeLine := by rw [List.length_map]; exact Nat.le_trans hl l63
  let ob : Obj := { cls := .type "list", data := .seq vs.toArray }
  -- the script is held, unless it is written
  have core : ∀ H : Hp, (∀ b, H b = none ∨ (b = a ∧ H b = some (.frz ob (.lst (ns.map V.int))))) → LsR K H a (ns.map V.int) → (H a ≠ none → K.lookup a = none) →
      codeAny (model P w) callerA (.call (.ref fa) ⟨[.ref a], []⟩) (fun r s' => r = .ok (.ret (.bool true)) ∧ OldK s.heap s'.heap ∧ s'.os = s.os ∧ AllBare s'.gens) s := by
    intro H only hL hka
    have hok : HOk P w H s.heap := fun b u z => by
      rcases only b with c | ⟨rfl, c⟩
      · rw [c] at z; cases z
      · rw [c] at z
        cases z
        exact ⟨ha, nlen, vs, _, rv, ha⟩
    have free_dict : ∀ {b : Addr} {o : Obj} {ds : Array DictEntry} {n : Nat}, s.heap.get? b = some o → o.data = .dict ds n → H b = none := fun {b o ds n} e d => by
      rcases only b with c | ⟨rfl, c⟩
      · exact c
      · rw [ha] at e
        cases e
        cases (show Data.seq vs.toArray _ = Data.dict ds n from d)
    have down : ∀ {b : Addr} {m : Str → Option Value}, s.heap.Ns b m → (hidT s.heap H).Ns b m := fun {b m} ⟨o, ds, n, e, d, q⟩ => ⟨o, ds, n, hidT_get e (free_dict e d), d, q⟩
    have kb : K.In (hidT s.heap H) := fun b o e => hidT_get (KX b o e) (by
      rcases only b with c | ⟨rfl, c⟩
      · exact c
      · rw [hka (by rw [c]; exact fun z => nomatch z)] at e; cases e)
    obtain ⟨mc, c1, c2⟩ := lim
    have md : Mod K mg (hidT s.heap H) := ⟨kb, down hns, ⟨mb, down hb, hbb⟩, ⟨mc, down c1, c2⟩⟩
    have e0 : Env0 P w K mg (hidT s.heap H) callerA [] s H := ⟨rfl, md, fun b o e => of_hidT e, Nat.le_of_eq (hidT_size _ _), trivial, fun b z => absurd (show b ∈ ([] : List Addr) from z) (by simp), hok, .of_eq hg⟩
    refine codeAny_mono ((F _ kb (down hns)).run callerA [] s H ⟨[.ref a], []⟩ [.ref a] [.ref a] _ _ hr rfl e0 (bd s (.ref a)) (.cons rfl .nil) (win H a ns hl hL)) ?_
    intro r s' h
    match r, h with
    | .error _, h => exact h.elim
    | .ok .next, h => exact h.elim
    | .ok .brk, h => exact h.elim
    | .ok .cont, h => exact h.elim
    | .ok (.ret u), h =>
      obtain ⟨v, H', os, bare, un, hok', r', q⟩ := h
      have q : v = .bl true := q
      subst q
      have r' : u = Value.bool true := r'
      subst r'
      refine ⟨rfl, OldK.of_keep fun b o e => ?_, os, bare⟩
      rcases only b with c | ⟨rfl, c⟩
      · exact un.keep b o e c (fun z => absurd (show b ∈ ([] : List Addr) from z) (by simp)) (by simp)
      · have z := hok' b _ (un.frzs b ob _ c)
        rw [ha] at e
        cases e
        exact z.1
  cases hk : K.lookup a with
  | some o =>
    have e := KX a o hk
    rw [ha] at e
    cases e
    exact core (fun _ => none) (fun _ => .inl rfl) (.inr ⟨vs, _, hk, nlen, rv⟩) fun z => absurd rfl z
  | none =>
    refine core (fun b => if b = a then some (.frz ob (.lst (ns.map V.int))) else none) (fun b => ?_) (.inl (.inr ⟨ob, if_pos rfl⟩)) fun _ => hk
    by_cases c : b = a
    · exact .inr ⟨c, if_pos c⟩
    · exact .inl (if_neg c)
/-- the goal behind the head -/
theorem walk_G {l : PySem.W.OpenLaw} {k : Nat} {q : Program} {loose : List Str} {XP : (Str → Option Value) → Heap → Prop} {YP : World → Heap → Prop} {d : DefRec} {K : Params → PySem.W.Frag} {sp : PySem.W.Frag → Sp} {x : Str}
    (hn : l.most = some 63) (hdf : d.params.defaults = []) (hr : Room k callerA) (hY : ∀ (w : World) (h : Heap), YP w h → (K w.params).In h)
    (F : ∀ (w : World) (mg : Str → Option Value) (fa : Addr) (h : Heap), (K w.params).In h → h.Ns mainGlobals mg → mg d.name = some (.ref fa) →
      ∃ fd : FuncData, (∀ (s : Shared) (u : Value), BindsTo s fd ⟨[u], []⟩ [(x, u)]) ∧ ∀ base : Heap, (K w.params).In base → base.Ns mainGlobals mg → FnG l.prog w (K w.params) mg base k fa fd [x] (sp (K w.params)))
    (win : ∀ K, Wins K (sp K)) : PySem.W.WalkO q loose XP YP l.row.toRowW d [] (fun f vs => PySem.call f vs) := by
  refine Att.attach_call hn hdf fun w s₀ s mg mb fa o pm cd doc a vs ns G Y ho hd hcd hmg hobj hints hlen hg => ?_
  have KX := hY w _ Y
  obtain ⟨fd, bd, hF⟩ := F w mg fa _ KX G.T.g hmg
  exact law_G KX G.T.g G.T.b G.T.builtins G.T.nolimit hg hobj hints hlen hr hF bd (win _)
end Dv

set_option Elab.async false
set_option linter.all false
set_option maxRecDepth 100000
set_option maxHeartbeats 4000000
/-! calls of the text's own defs -/
namespace Dv
open PySem PySem.Spec PyProof.Rows L2
/-- what a def promises: φ of its arguments' data -/
def spF (K : PySem.W.Frag) (np : Nat) (φ : DEn → Option (Slo × DEn)) : Sp := fun vs H Q _ => ∃ α F as r os, vs.length = np ∧ ER K α F H as (vs.map some) ∧ φ as = some (r, os) ∧
  ∀ v F' H', Aft K α (OwnA as (vs.map some)) F H (vs.map some) os r v F' H' → Q v H'
structure FnD (X : Cx) (k : Nat) (x : Str) (np : Nat) (φ : DEn → Option (Slo × DEn)) : Prop where
  ex : ∃ (fa : Addr) (fd : FuncData) (ps : List Str), FnG X.prog X.w X.K X.mg X.base k fa fd ps (spF X.K np φ) ∧ X.mg x = some (.ref fa) ∧ PySem.W.keepIn X.K (.ref fa) = true ∧ Binds X.K fd ps []

/-- the arguments' data stand to the operands -/
inductive AsOk (ρ : DEn) : List Opd → DEn → Prop
  | nil : AsOk ρ [] []
  | val {d : PD} {xs : List Opd} {as : DEn} : AsOk ρ xs as → AsOk ρ (.res (.val d) :: xs) (.val d :: as)
  | own {i : Nat} {p : Option Nat} {ds : List PD} {xs : List Opd} {as : DEn} : ρ[i]? = some (Slo.own p ds) → AsOk ρ xs as → AsOk ρ (.slot i :: xs) (.own none ds :: as)
theorem asOk_of {ρ : DEn} : ∀ {xs : List Opd} {as : DEn}, argsOf ρ xs = some as → AsOk ρ xs as
  | [], _, h => by simp only [argsOf] at h; cases h; exact .nil
  | .res r :: xs, _, h => by
    cases r with
    | un => simp only [argsOf] at h; cases h
    | own p ds => simp only [argsOf] at h; cases h
    | val d =>
      simp only [argsOf] at h
      split at h
      · rename_i as e
        cases h
        exact .val (asOk_of e)
      · cases h
  | .slot i :: xs, _, h => by
    simp only [argsOf] at h
    split at h
    · rename_i p ds as e1 e2
      cases h
      exact .own e1 (asOk_of e2)
    · cases h
theorem AsOk.len {ρ : DEn} {xs : List Opd} {as : DEn} (h : AsOk ρ xs as) : as.length = xs.length := by
  induction h with
  | nil => rfl
  | val _ ih => rw [List.length_cons, List.length_cons, ih]
  | own _ _ ih => rw [List.length_cons, List.length_cons, ih]
theorem AsOk.get {ρ : DEn} {xs : List Opd} {as : DEn} (h : AsOk ρ xs as) : ∀ (j : Nat) (s : Slo), as[j]? = some s →
    (∃ d, s = .val d ∧ xs[j]? = some (.res (.val d))) ∨ ∃ i p ds, s = .own none ds ∧ xs[j]? = some (.slot i) ∧ ρ[i]? = some (Slo.own p ds) := by
  induction h with
  | nil => intro j s e; simp at e
  | val _ ih =>
    intro j s e
    cases j with
    | zero => simp at e; subst e; exact .inl ⟨_, rfl, rfl⟩
    | succ j => simpa using ih j s (by simpa using e)
  | own e0 _ ih =>
    intro j s e
    cases j with
    | zero => simp at e; subst e; exact .inr ⟨_, _, _, rfl, rfl, e0⟩
    | succ j => simpa using ih j s (by simpa using e)
theorem slots_mem {xs : List Opd} {i : Nat} : i ∈ slotsOf xs ↔ ∃ j : Nat, xs[j]? = some (.slot i) := by
  induction xs with
  | nil => simp [slotsOf]
  | cons x xs ih =>
    have tl : (∃ j : Nat, (x :: xs)[j]? = some (.slot i)) ↔ x = .slot i ∨ ∃ j : Nat, xs[j]? = some (.slot i) := by
      constructor
      · rintro ⟨j, e⟩
        cases j with
        | zero => left; simpa using e
        | succ j => right; exact ⟨j, by simpa using e⟩
      · rintro (e | ⟨j, e⟩)
        · exact ⟨0, by simp [e]⟩
        · exact ⟨j + 1, by simpa using e⟩
    rw [tl, ← ih]
    cases x with
    | slot k =>
      simp only [slotsOf, List.mem_cons, Opd.slot.injEq]
      constructor
      · rintro (e | e); exact .inl e.symm; exact .inr e
      · rintro (e | e); exact .inl e.symm; exact .inr e
    | res r => simp [slotsOf]
theorem slots_uniq {xs : List Opd} (h : (slotsOf xs).Nodup) : ∀ {j k : Nat} {i : Nat}, xs[j]? = some (.slot i) → xs[k]? = some (.slot i) → j = k := by
  induction xs with
  | nil => intro j k i e; simp at e
  | cons x xs ih =>
    have h' : (slotsOf xs).Nodup := by
      cases x with
      | slot _ => exact (List.nodup_cons.mp h).2
      | res _ => exact h
    have hx : ∀ {i k : Nat}, x = .slot i → xs[k]? = some (.slot i) → False := fun {i k} e e2 => by
      subst e
      exact (List.nodup_cons.mp h).1 (slots_mem.mpr ⟨k, e2⟩)
    intro j k i e1 e2
    cases j with
    | zero =>
      cases k with
      | zero => rfl
      | succ k => exact (hx (by simpa using e1) (by simpa using e2)).elim
    | succ j =>
      cases k with
      | zero => exact (hx (by simpa using e2) (by simpa using e1)).elim
      | succ k => exact congrArg (· + 1) (ih h' (by simpa using e1) (by simpa using e2))
/-- what putBack does, slot by slot -/
theorem put_spec : ∀ {xs : List Opd} {os ρ ρ' : DEn}, (slotsOf xs).Nodup → putBack ρ xs os = some ρ' → ρ'.length = ρ.length ∧ (∀ i, i ∉ slotsOf xs → ρ'[i]? = ρ[i]?) ∧
    ∀ (j i : Nat), xs[j]? = some (.slot i) → ∃ p q ds ds', ρ[i]? = some (Slo.own p ds) ∧ os[j]? = some (Slo.own q ds') ∧ ρ'[i]? = some (Slo.own p ds')
  | [], os, ρ, ρ', _, h => by
    cases os with
    | nil => simp only [putBack] at h; cases h; exact ⟨rfl, fun _ _ => rfl, fun j i e => by simp at e⟩
    | cons _ _ => simp only [putBack] at h; cases h
  | .res r :: xs, os, ρ, ρ', nd, h => by
    cases os with
    | nil => simp only [putBack] at h; cases h
    | cons o os =>
      simp only [putBack] at h
      obtain ⟨h1, h2, h3⟩ := put_spec (xs := xs) nd h
      refine ⟨h1, h2, fun j i e => ?_⟩
      cases j with
      | zero => simp at e
      | succ j => simpa using h3 j i (by simpa using e)
  | .slot k :: xs, os, ρ, ρ', nd, h => by
    cases os with
    | nil => simp only [putBack] at h; cases h
    | cons o os =>
      cases o with
      | un => simp only [putBack] at h; cases h
      | val _ => simp only [putBack] at h; cases h
      | own q ds' =>
        simp only [putBack] at h
        split at h
        · rename_i p ds e0
          have nd' := List.nodup_cons.mp nd
          obtain ⟨h1, h2, h3⟩ := put_spec (xs := xs) nd'.2 h
          have hk : k < ρ.length := (List.getElem?_eq_some_iff.mp e0).1
          refine ⟨by rw [h1, List.length_set], fun i hi => ?_, fun j i e => ?_⟩
          · have hi' : i ≠ k ∧ i ∉ slotsOf xs := by
              simp only [slotsOf, List.mem_cons, not_or] at hi
              exact hi
            rw [h2 i hi'.2, List.getElem?_set_ne (Ne.symm hi'.1)]
          · cases j with
            | zero =>
              have e' : k = i := by simpa using e
              subst e'
              exact ⟨p, q, ds, ds', e0, rfl, by rw [h2 k nd'.1, List.getElem?_set_self hk]⟩
            | succ j =>
              obtain ⟨p', q', es, es', g1, g2, g3⟩ := h3 j i (by simpa using e)
              have ne : i ≠ k := by
                rintro rfl
                exact nd'.1 (slots_mem.mpr ⟨j, by simpa using e⟩)
              rw [List.getElem?_set_ne (Ne.symm ne)] at g1
              exact ⟨p', q', es, es', g1, by simpa using g2, g3⟩
        · cases h
section
variable {K : PySem.W.Frag}
theorem paired_get {K : PySem.W.Frag} {F H : Hp} {σ : L2.St} : ∀ {vs : List V} {xs : List Opd}, Paired (fun v x => RepO K F H σ v x) vs xs → ∀ {j : Nat} {x : Opd}, xs[j]? = some x → ∃ v, vs[j]? = some v ∧ RepO K F H σ v x
  | _, _, .nil, j, x, e => by simp at e
  | _, _, .cons r t, 0, x, e => by simp at e; subst e; exact ⟨_, rfl, r⟩
  | _, _, .cons r t, j + 1, x, e => by
    obtain ⟨v, h1, h2⟩ := paired_get t (j := j) (by simpa using e)
    exact ⟨v, by simpa using h1, h2⟩
theorem map_some_get {vs : List V} {j : Nat} {v : V} (h : vs[j]? = some v) : (vs.map some)[j]? = some (some v) := by
  rw [List.getElem?_map, h]; rfl
theorem of_map_some {vs : List V} {j : Nat} {v : V} (h : (vs.map some)[j]? = some (some v)) : vs[j]? = some v := by
  rw [List.getElem?_map] at h
  cases e : vs[j]? with
  | none => rw [e] at h; cases h
  | some w => rw [e] at h; cases h; rfl
/-- the arguments as an environment -/
theorem args_er {α : Nat → Addr} {F H : Hp} {ρ as : DEn} {σ : L2.St} {xs : List Opd} {vs : List V} (E : ER K α F H ρ σ) (r : Paired (fun v x => RepO K F H σ v x) vs xs) (nd : (slotsOf xs).Nodup) (h : AsOk ρ xs as) :
    ER K α F H as (vs.map some) where
  sub := E.sub
  len := by rw [h.len, List.length_map]; exact (Paired.length r).symm
  val := fun j d e => by
    rcases h.get j _ e with ⟨d', e1, e2⟩ | ⟨i, p, ds, e1, _⟩
    · cases e1
      obtain ⟨v, k1, k2⟩ := paired_get r e2
      exact ⟨v, map_some_get k1, k2⟩
    · cases e1
  own := fun j p ds e => by
    rcases h.get j _ e with ⟨d', e1, e2⟩ | ⟨i, p', ds', e1, e2, e3⟩
    · cases e1
    · cases e1
      obtain ⟨a, ys, k1, k2, k3, k4, _⟩ := E.own i p' ds e3
      obtain ⟨v, k5, k6⟩ := paired_get r e2
      have k6' : σ[i]? = some (some v) := k6
      rw [k1] at k6'
      cases k6'
      exact ⟨a, ys, map_some_get k5, k2, k3, k4, fun _ z => nomatch z⟩
  inj := fun j k p q ds es n e1 e2 => by
    rcases h.get j _ e1 with ⟨d', g1, _⟩ | ⟨i, p', ds', g1, g2, g3⟩
    · cases g1
    rcases h.get k _ e2 with ⟨d', g4, _⟩ | ⟨i', p'', ds'', g4, g5, g6⟩
    · cases g4
    intro z
    obtain ⟨v, k1, k2⟩ := paired_get r g2
    obtain ⟨u, k3, k4⟩ := paired_get r g5
    rw [map_some_get k1, map_some_get k3] at z
    cases z
    have k2' : σ[i]? = some (some v) := k2
    have k4' : σ[i']? = some (some v) := k4
    have ne : i ≠ i' := by
      rintro rfl
      exact n (slots_uniq nd g2 g5)
    exact E.inj i i' p' p'' ds' ds'' ne g3 g6 (by rw [k2', k4'])
theorem args_own {F H : Hp} {ρ as : DEn} {σ : L2.St} {xs : List Opd} {vs : List V} (r : Paired (fun v x => RepO K F H σ v x) vs xs) (h : AsOk ρ xs as) {b : Addr} (z : OwnA as (vs.map some) b) : ∃ i p ds, i ∈ slotsOf xs ∧ ρ[i]? = some (Slo.own p ds) ∧ σ[i]? = some (some (V.ref b)) := by
  obtain ⟨j, p, ds, e1, e2⟩ := z
  rcases h.get j _ e1 with ⟨d', g1, _⟩ | ⟨i, p', ds', g1, g2, g3⟩
  · cases g1
  · obtain ⟨v, k1, k2⟩ := paired_get r g2
    have e3 := of_map_some e2
    rw [e3] at k1
    cases k1
    exact ⟨i, p', ds', slots_mem.mpr ⟨j, g2⟩, g3, k2⟩
/-- behind the call: the caller's environment -/
theorem call_aft {α α' : Nat → Addr} {F H F' H' : Hp} {ρ as os ρ' : DEn} {σ : L2.St} {xs : List Opd} {vs : List V} {r0 : Slo} {v : V} (E : ER K α F H ρ σ) (r : Paired (fun v x => RepO K F H σ v x) vs xs) (nd : (slotsOf xs).Nodup) (h : AsOk ρ xs as)
    (pb : putBack ρ xs os = some ρ') (A : Aft K α' (OwnA as (vs.map some)) F H (vs.map some) os r0 v F' H') : Aft K α (OwnA ρ σ) F H σ ρ' r0 v F' H' := by
  obtain ⟨len, out, ins⟩ := put_spec nd pb
  have own_in : ∀ b, OwnA as (vs.map some) b → OwnA ρ σ b := fun b z => by
    obtain ⟨i, p, ds, _, e1, e2⟩ := args_own r h z
    exact ⟨i, p, ds, e1, e2⟩
  have notlent : ∀ (i : Nat) (p : Option Nat) (ds : List PD) (b : Addr), i ∉ slotsOf xs → ρ[i]? = some (Slo.own p ds) → σ[i]? = some (some (V.ref b)) → ¬ OwnA as (vs.map some) b := fun i p ds b hi e1 e2 z => by
    obtain ⟨j, q, es, hj, e3, e4⟩ := args_own r h z
    have ne : i ≠ j := fun c => hi (c ▸ hj)
    exact E.inj i j p q ds es ne e1 e3 (by rw [e2, e4])
  have slot_in : ∀ i, i ∈ slotsOf xs → ∃ (p q : Option Nat) (ds ds' : List PD) (a : Addr) (ys : List V), ρ[i]? = some (Slo.own p ds) ∧ ρ'[i]? = some (Slo.own p ds') ∧ σ[i]? = some (some (V.ref a)) ∧ (∃ j : Nat, os[j]? = some (Slo.own q ds') ∧ (vs.map some)[j]? = some (some (V.ref a))) ∧
      H' a = some (.lst ys) ∧ F' a = none ∧ RpAll K F' ys ds' := fun i hi => by
    obtain ⟨j, hj⟩ := slots_mem.mp hi
    obtain ⟨p, q, ds, ds', e1, e2, e3⟩ := ins j i hj
    obtain ⟨a, ys, k1, _⟩ := E.own i p ds e1
    obtain ⟨u, k2, k3⟩ := paired_get r hj
    have k3' : σ[i]? = some (some u) := k3
    rw [k1] at k3'
    cases k3'
    obtain ⟨a2, zs, m1, m2, m3, m4, _⟩ := A.er.own j q ds' e2
    rw [map_some_get k2] at m1
    cases m1
    exact ⟨p, q, ds, ds', a, zs, e1, e3, k1, ⟨j, e2, map_some_get k2⟩, m2, m3, m4⟩
  have own_back : ∀ b, OwnA ρ' σ b → OwnA ρ σ b ∧ (OwnA as (vs.map some) b → OwnA os (vs.map some) b) := fun b ⟨i, p, ds, e1, e2⟩ => by
    by_cases hi : i ∈ slotsOf xs
    · obtain ⟨p', q, es, es', a, ys, g1, g2, g3, ⟨j, g4, g5⟩, _⟩ := slot_in i hi
      rw [e2] at g3
      cases g3
      exact ⟨⟨i, p', es, g1, e2⟩, fun _ => ⟨j, q, es', g4, g5⟩⟩
    · rw [out i hi] at e1
      exact ⟨⟨i, p, ds, e1, e2⟩, fun z => absurd z (notlent i p ds b hi e1 e2)⟩
  refine ⟨⟨A.er.sub, len.trans E.len, fun i d e => ?_, fun i p ds e => ?_, fun i j p q ds es n e1 e2 => ?_⟩, A.rep, fun b z w => ?_, ⟨A.st.ff, fun b o e n => A.st.keep b o e fun z => n (own_in b z), fun b o e n f => A.st.nof b o e (fun z => n (own_in b z)) f, fun b z => ?_, A.st.there⟩⟩
  · by_cases hi : i ∈ slotsOf xs
    · obtain ⟨p', q, es, es', a, ys, g1, g2, _⟩ := slot_in i hi
      rw [g2] at e; cases e
    · rw [out i hi] at e
      obtain ⟨w, k1, k2⟩ := E.val i d e
      exact ⟨w, k1, rp_mono A.st.ff _ _ k2⟩
  · by_cases hi : i ∈ slotsOf xs
    · obtain ⟨p', q, es, es', a, ys, g1, g2, g3, _, g5, g6, g7⟩ := slot_in i hi
      rw [g2] at e
      cases e
      obtain ⟨a', _, k1, _, _, _, k5⟩ := E.own i p es g1
      rw [g3] at k1
      cases k1
      exact ⟨a, ys, g3, g5, g6, g7, k5⟩
    · rw [out i hi] at e
      obtain ⟨a, ys, k1, k2, k3, k4, k5⟩ := E.own i p ds e
      have nl := notlent i p ds a hi e k1
      exact ⟨a, ys, k1, A.st.keep a _ k2 nl, A.st.nof a _ k2 nl k3, rpAll_mono A.st.ff _ _ k4, k5⟩
  · have bk : ∀ (i : Nat) (p : Option Nat) (ds : List PD), ρ'[i]? = some (Slo.own p ds) → ∃ ds', ρ[i]? = some (Slo.own p ds') := fun i p ds e => by
      by_cases hi : i ∈ slotsOf xs
      · obtain ⟨p', q, es, es', a, ys, g1, g2, _⟩ := slot_in i hi
        rw [g2] at e
        cases e
        exact ⟨_, g1⟩
      · rw [out i hi] at e; exact ⟨_, e⟩
    obtain ⟨_, f1⟩ := bk _ _ _ e1
    obtain ⟨_, f2⟩ := bk _ _ _ e2
    exact E.inj i j p q _ _ n f1 f2
  · -- the result is no owned list of the caller
    obtain ⟨w1, w2⟩ := own_back b w
    rcases A.st.oo b (.inr z) with c | c
    · exact A.dist b z (w2 c)
    · obtain ⟨i, p, ds, e1, e2⟩ := w1
      obtain ⟨a, ys, k1, k2, _⟩ := E.own i p ds e1
      rw [e2] at k1
      cases k1
      rw [c] at k2; cases k2
  · rcases z with z | z
    · exact .inl (own_back b z).1
    · exact (A.st.oo b (.inr z)).imp (own_in b) id
end
section
variable {X : Cx} {C : Cfg} {ir : Ir} {pos np : Pos} {es : List Expr} {e : Expr}
theorem call_weak {f n : Nat} {σ : L2.St} {H : Hp} {Q : VK} (q : tX X.K C (.call f ir) σ H Q) (hn : ∀ as r os, C.fn f as = some (r, os) → as.length = n) : tL X.K C false ir σ H fun vs H1 => spF X.K n (C.fn f) vs H1 Q E0 := by
  obtain ⟨α, F, ρ, r, ρ', E, ev, k⟩ := q
  simp only [evX] at ev
  split at ev
  · cases ev
  · rename_i xs ρ1 e1
    split at ev
    · rename_i nd
      split at ev
      · cases ev
      · rename_i as f1
        split at ev
        · cases ev
        · rename_i r' os f2
          split at ev
          · rename_i ρ2 f3
            cases ev
            refine ⟨α, F, ρ, xs, ρ1, E, e1, fun vs F1 H1 A => ?_⟩
            have ao := asOk_of f1
            have El := args_er A.er A.rep nd ao
            exact ⟨α, F1, as, r, os, by rw [← hn as r os f2, El.len, List.length_map], El, f2, fun v F' H' B => k v F' H' (.after A.st (call_aft A.er A.rep nd ao f3 B))⟩
          · cases ev
    · cases ev
theorem dx_call {kk f n : Nat} {x : Str} (Fd : FnD X kk x n (C.fn f)) (hn : ∀ as r os, C.fn f as = some (r, os) → as.length = n) (hr : Room kk X.A) (gd : X.A.guards = some []) (hg : Gl X x) (hdb : (x == ("__debug__" : Str)) = false) (h : DL X C false (e :: es) ir) : DX X C (.Call (.Name x np) (e :: es) [] pos) (.call f ir) := by
  obtain ⟨fa, fd, ps, F, hm, hk, hb⟩ := Fd.ex
  have h1 : tame e = true ∧ tames es = true := Bool.and_eq_true_iff.mp h.tm
  exact .mk' (pe_mono (pe_G F hr gd hg hm hk hb h.a hdb (tame_star h1.1 es X.env) (tames_any h1.2)) fun σ H Q q => call_weak q hn) rfl rfl rfl
theorem dx_call0 {kk f n : Nat} {x : Str} (Fd : FnD X kk x n (C.fn f)) (hn : ∀ as r os, C.fn f as = some (r, os) → as.length = n) (hr : Room kk X.A) (gd : X.A.guards = some []) (hg : Gl X x) (hdb : (x == ("__debug__" : Str)) = false) : DX X C (.Call (.Name x np) [] [] pos) (.call f .nil) := by
  obtain ⟨fa, fd, ps, F, hm, hk, hb⟩ := Fd.ex
  refine .mk' (pe_mono (pe_G0 F hr gd hg hm hk hb hdb) fun σ H Q q => ?_) rfl rfl rfl
  have q' := call_weak q hn
  obtain ⟨α, F, ρ, xs, ρ1, E, ev, k⟩ := q'
  simp only [evL] at ev
  cases ev
  exact k [] F H ⟨E, .nil, .refl⟩
end
end Dv

set_option Elab.async false
set_option linter.all false
set_option maxRecDepth 100000
set_option maxHeartbeats 4000000
/-! targets, what is walked, comprehensions -/
namespace Dv
open PySem PySem.Spec PyProof.Rows L2
/-! ### targets -/
def tgts : Ir → List Nat
  | .var i => [i]
  | .tup es => tgts es
  | .cons a b => tgts a ++ tgts b
  | _ => []
def tAsg (K : PySem.W.Frag) (t : Ir) : TG := fun v σ H Q => ∃ α F ρ d ρ', ER K α F H ρ σ ∧ Rp K F v d ∧ asg t d ρ = some ρ' ∧
  ∀ σ', ER K α F H ρ' σ' → (∀ b, OwnA ρ' σ' b → OwnA ρ σ b) → σ'.length = σ.length → (∀ j, j ∉ tgts t → σ'[j]? = σ[j]?) → Q σ' H
def tAsgs (K : PySem.W.Frag) (t : Ir) : TGs := fun vs σ H Q => ∃ α F ρ ds ρ', ER K α F H ρ σ ∧ RpAll K F vs ds ∧ asgs t ds ρ = some ρ' ∧
  ∀ σ', ER K α F H ρ' σ' → (∀ b, OwnA ρ' σ' b → OwnA ρ σ b) → σ'.length = σ.length → (∀ j, j ∉ tgts t → σ'[j]? = σ[j]?) → Q σ' H
section
variable {K : PySem.W.Frag}
theorem ER.setv {α : Nat → Addr} {F H : Hp} {ρ : DEn} {σ : L2.St} {i : Nat} {v : V} {d : PD} (E : ER K α F H ρ σ) (q : Rp K F v d) : ER K α F H (ρ.set i (.val d)) (σ.set i (some v)) ∧ ∀ b, OwnA (ρ.set i (.val d)) (σ.set i (some v)) b → OwnA ρ σ b := by
  have hin : ∀ (j : Nat) (q : Option Nat) (es : List PD), (ρ.set i (.val d))[j]? = some (Slo.own q es) → j ≠ i ∧ ρ[j]? = some (Slo.own q es) := fun j q es e => by
    by_cases c : j = i
    · subst c
      by_cases hj : j < ρ.length
      · rw [List.getElem?_set_self hj] at e; cases e
      · rw [List.getElem?_eq_none (by rw [List.length_set]; omega)] at e; cases e
    · rw [List.getElem?_set_ne (Ne.symm c)] at e; exact ⟨c, e⟩
  refine ⟨⟨E.sub, by rw [List.length_set, List.length_set]; exact E.len, fun j d' e => ?_, fun j p es e => ?_, fun j k p q es es' n e1 e2 => ?_⟩, fun b ⟨j, p, es, e1, e2⟩ => ?_⟩
  · by_cases c : j = i
    · subst c
      by_cases hj : j < ρ.length
      · rw [List.getElem?_set_self hj] at e
        cases e
        exact ⟨v, List.getElem?_set_self (by rw [← E.len]; exact hj), q⟩
      · rw [List.getElem?_eq_none (by rw [List.length_set]; omega)] at e; cases e
    · rw [List.getElem?_set_ne (Ne.symm c)] at e ⊢
      exact E.val j d' e
  · obtain ⟨c, e'⟩ := hin _ _ _ e
    rw [List.getElem?_set_ne (Ne.symm c)]
    exact E.own j p es e'
  · obtain ⟨c1, f1⟩ := hin _ _ _ e1
    obtain ⟨c2, f2⟩ := hin _ _ _ e2
    rw [List.getElem?_set_ne (Ne.symm c1), List.getElem?_set_ne (Ne.symm c2)]
    exact E.inj j k p q es es' n f1 f2
  · obtain ⟨c, e'⟩ := hin _ _ _ e1
    rw [List.getElem?_set_ne (Ne.symm c)] at e2
    exact ⟨j, p, es, e', e2⟩
end
section
variable {X : Cx} {pos : Pos}
theorem pg_mono {e : Expr} {t t' : TG} (h : PG X e t) (w : ∀ v σ H Q, t' v σ H Q → t v σ H Q) : PG X e t' := ⟨fun pins s σ H v u Q I r q => h.run pins s σ H v u Q I r (w v σ H Q q)⟩
theorem pgs_mono {e : List Expr} {t t' : TGs} (h : PGs X e t) (w : ∀ v σ H Q, t' v σ H Q → t v σ H Q) : PGs X e t' := ⟨fun pins s σ H v u Q I r q => h.run pins s σ H v u Q I r (w v σ H Q q)⟩
theorem pg_or {e : Expr} {t t' : TG} (h : PG X e t) (h' : PG X e t') : PG X e (fun v σ H Q => t v σ H Q ∨ t' v σ H Q) :=
  ⟨fun pins s σ H v u Q I r q => q.elim (fun q => h.run pins s σ H v u Q I r q) fun q => h'.run pins s σ H v u Q I r q⟩
theorem dg_name {i : Nat} {x : Str} (h : PG X (.Name x pos) (gName i)) : PG X (.Name x pos) (tAsg X.K (.var i)) := pg_mono h fun v σ H Q q => by
  obtain ⟨α, F, ρ, d, ρ', E, r, ev, k⟩ := q
  simp only [asg] at ev
  obtain ⟨hi, e⟩ := some_of_ite ev
  subst e
  obtain ⟨E', O⟩ := E.setv (i := i) r
  exact k _ E' O (List.length_set ..) fun j hj => List.getElem?_set_ne fun c => hj (by rw [← c]; exact List.mem_singleton.mpr rfl)
/-- a row of plain names -/
inductive Names (X : Cx) : List Expr → Ir → Prop
  | nil : Names X [] .nil
  | cons {x : Str} {p : Pos} {i : Nat} {es : List Expr} {t : Ir} : PG X (.Name x p) (gName i) → Names X es t → Names X (.Name x p :: es) (.cons (.var i) t)
theorem names_len {es : List Expr} {t : Ir} (h : Names X es t) (env : PySem.Env) : (assignEach es env).length = es.length := by
  induction h with
  | nil => rfl
  | cons _ _ ih => show (assignEach _ env).length + 1 = _; rw [ih]; rfl
theorem names_star {es : List Expr} {t : Ir} (h : Names X es t) (env : PySem.Env) : (assignEach es env).findIdx? (·.1) = none := by
  induction h with
  | nil => rfl
  | cons _ _ ih =>
    show ((false, _) :: assignEach _ env).findIdx? (·.1) = none
    rw [List.findIdx?_cons]
    simp [ih]
theorem names_pgs {es : List Expr} {t : Ir} (h : Names X es t) : PGs X es (tAsgs X.K t) := by
  induction h with
  | nil =>
    refine pgs_mono pgs_nil fun vs σ H Q q => ?_
    obtain ⟨α, F, ρ, ds, ρ', E, r, ev, k⟩ := q
    cases r with
    | nil =>
      simp only [asgs] at ev
      cases ev
      exact ⟨rfl, k σ E (fun _ z => z) rfl fun _ _ => rfl⟩
    | cons _ _ => simp only [asgs] at ev; cases ev
  | @cons x p i es t h1 _ ih =>
    refine pgs_mono (pgs_cons h1 ih rfl) fun vs σ H Q q => ?_
    obtain ⟨α, F, ρ, ds, ρ', E, r, ev, k⟩ := q
    cases r with
    | nil => simp only [asgs] at ev; cases ev
    | @cons v vs d ds r1 r2 =>
      simp only [asgs] at ev
      split at ev
      · obtain ⟨E', O⟩ := E.setv (i := i) r1
        refine ⟨v, vs, rfl, α, F, _, ds, ρ', E', r2, ev, fun σ' E2 O2 len out => k σ' E2 (fun b z => O b (O2 b z)) (by rw [len, List.length_set]) fun j hj => ?_⟩
        have hj' : j ≠ i ∧ j ∉ tgts t := by
          have : j ∉ [i] ++ tgts t := hj
          simpa [List.mem_append, not_or] using this
        rw [out j hj'.2, List.getElem?_set_ne (Ne.symm hj'.1)]
      · cases ev
theorem names_asgs_len {K : PySem.W.Frag} {es : List Expr} {t : Ir} (h : Names X es t) : ∀ {ds : List PD} {ρ ρ' : DEn}, asgs t ds ρ = some ρ' → ds.length = es.length := by
  induction h with
  | nil =>
    intro ds ρ ρ' e
    cases ds with
    | nil => rfl
    | cons _ _ => simp only [asgs] at e; cases e
  | cons _ _ ih =>
    intro ds ρ ρ' e
    cases ds with
    | nil => simp only [asgs] at e; cases e
    | cons d ds =>
      simp only [asgs] at e
      split at e
      · rw [List.length_cons, List.length_cons, ih e]
      · cases e
theorem dg_tup {es : List Expr} {t : Ir} {k : Nat} (hc : X.calm = true) (h : Names X es t) : PG X (.Tuple es k pos) (tAsg X.K (.tup t)) := by
  refine pg_mono (pg_or (pg_tup hc (names_pgs h) (names_len h X.env) (names_star h X.env)) (pg_unl hc (names_pgs h) (names_len h X.env) (names_star h X.env))) fun v σ H Q q => ?_
  obtain ⟨α, F, ρ, d, ρ', E, r, ev, k⟩ := q
  cases r with
  | @tup a xs ds r1 r2 =>
    simp only [asg] at ev
    have l := names_asgs_len (K := X.K) h ev
    exact .inl ⟨a, xs, rfl, sqt_mono E.sub r1, by rw [rpAll_len r2, l], α, F, ρ, ds, ρ', E, r2, ev, k⟩
  | @lst a xs ds r1 r2 =>
    simp only [asg] at ev
    have l := names_asgs_len (K := X.K) h ev
    exact .inr ⟨a, xs, rfl, (ls_mono E.sub r1).sq, by rw [rpAll_len r2, l], α, F, ρ, ds, ρ', E, r2, ev, k⟩
  | _ => simp only [asg] at ev; cases ev
end

/-! ### what is walked -/
structure ItD (K : PySem.W.Frag) (m : Bool) (F H : Hp) (ds : List PD) (J : It) (xs : List V) (P : Hp → Prop) (src : Addr → Prop) : Prop where
  rp : RpAll K F xs ds
  now : P H
  keep : ∀ H1 H2 : Hp, (∀ a o, src a → H1 a = some o → H2 a = some o) → P H1 → P H2
  go : ∀ i H1, P H1 → i < xs.length → J.go i H1
  yld : ∀ i H1 x H2, P H1 → i < xs.length → J.yld i H1 x H2 → H2 = H1 ∧ xs[i]? = some x
  stop : ∀ i H1, P H1 → xs.length ≤ i → J.stop i H1
  frz : m = false → ∀ a o, src a → H a = some o → F a = some o
def tIt (K : PySem.W.Frag) (C : Cfg) (m : Bool) (ir : Ir) : TI := fun σ H R => ∃ α F ρ ds ρ', ER K α F H ρ σ ∧ evI C m ir ρ = some (ds, ρ') ∧
  ∀ J F' H' xs P src, ER K α F' H' ρ' σ → Stp (OwnA ρ σ) (OwnA ρ' σ) F H F' H' → ItD K m F' H' ds J xs P src → R J H'
section
variable {X : Cx} {C : Cfg} {tg : Expr} {pos : Pos} {a b : Expr} {ia ib ir : Ir} {m : Bool}
theorem pi_mono {it : Expr} {t t' : TI} (h : PI X tg it t) (w : ∀ σ H R, t' σ H R → t σ H R) : PI X tg it t' := ⟨fun pins s σ H R I q => h.run pins s σ H R I (w σ H R q)⟩
/-- a list or a tuple, walked -/
def iSeq (K : PySem.W.Frag) (tl : TE) : TI := fun σ H R => tl σ H fun x H1 => ∃ a, x = .ref a ∧ (((∃ xs, SqL K H1 a xs) ∧ R (Itl K a) H1) ∨ ((∃ xs, SqT K H1 a xs) ∧ R (Itt K a) H1))
theorem pi_seq {l : Expr} {tl : TE} (hl : PE X l tl) : PI X tg l (iSeq X.K tl) := by
  refine ⟨fun pins s σ H R I h => ?_⟩
  refine thn (hl.run pins s σ H _ I h) fun v s1 ⟨x, H1, I1, r1, a, e, q⟩ => ?_
  subst e
  cases r1
  have fp : ∀ b ∈ [s1.heap.objs.size], FpOk X pins H1 b := fun b hb => by
    obtain rfl : b = s1.heap.objs.size := by simpa using hb
    exact I1.fpOk (Nat.le_refl _) I1.fresh
  rcases q with ⟨⟨xs, hq⟩, q⟩ | ⟨⟨xs, hq⟩, q⟩
  · obtain ⟨its, rv, p, hz⟩ := I1.list hq
    exact wpAny_pyIter_list p.isList ⟨_, [s1.heap.objs.size], _, _, H1, rfl, I1.kept (t' := s1.toks) fun b o e => Heap.get?_push_of_some _ e, turn_list a _, ⟨_, Heap.get?_push_size _ rfl, rfl, rfl⟩, fp, q⟩
  · obtain ⟨its, rv, p, hz⟩ := I1.tuple hq
    exact wpAny_pyIter_tuple (show s1.heap.IsTuple a its.toArray from p) ⟨_, [s1.heap.objs.size], _, _, H1, rfl, I1.kept (t' := s1.toks) fun b o e => Heap.get?_push_of_some _ e, turn_tuple a _, ⟨_, Heap.get?_push_size _ rfl, rfl, rfl⟩, fp, q⟩
/-- with what is known of the state -/
theorem pi_inv {it : Expr} {t t' : TI} (h : PI X tg it t) (w : ∀ pins s σ H R, Inv X pins σ H s → t' σ H R → t σ H R) : PI X tg it t' := ⟨fun pins s σ H R I q => h.run pins s σ H R I (w pins s σ H R I q)⟩
theorem pe_inv {e : Expr} {t t' : TE} (h : PE X e t) (w : ∀ pins s σ H Q, Inv X pins σ H s → t' σ H Q → t σ H Q) : PE X e t' := ⟨fun pins s σ H Q I q => h.run pins s σ H Q I (w pins s σ H Q I q)⟩
/-- at the end of an operand's evaluation the state is sound: a written object is not held -/
def tInv (X : Cx) (t : TE) : TE := fun σ H Q => t σ H fun v H1 => (∀ a o, X.K.lookup a = some o → H1 a = none) → Q v H1
theorem pe_tInv {e : Expr} {t : TE} (h : PE X e t) : PE X e (tInv X t) := ⟨fun pins s σ H Q I q => thn (h.run pins s σ H _ I q) fun v s1 ⟨x, H1, I1, r1, q1⟩ => ⟨x, H1, I1, r1, q1 fun a o e => (I1.bs a o (I1.mod.kin a o e)).2⟩⟩
theorem opd_frozen {e : Ir} {f : DEn → Option (Slo × DEn)} {ρ ρ' : DEn} {x : Opd} (h : opdOf false e f ρ = some (x, ρ')) : (∃ i, e = .lend i) ∨ ∃ d, x = .res (.val d) := by
  by_cases c : ∃ i, e = .lend i
  · exact .inl c
  · have h' : (match f ρ with
      | some (r, ρ1) => match frz r with
        | some d => some (Opd.res (.val d), ρ1)
        | none => none
      | none => none) = some (x, ρ') := by
      cases e <;> first | exact h | exact absurd ⟨_, rfl⟩ c
    split at h'
    · split at h'
      · cases h'; exact .inr ⟨_, rfl⟩
      · cases h'
    · cases h'
theorem seq_it {K : PySem.W.Frag} {F H : Hp} {v : V} {d : PD} {ds : List PD} (sm : Same F H) (w : Vp K F H v d) (hs : seqD d = some ds) (nk : ∀ a o, K.lookup a = some o → H a = none) (hf : m = false → Rp K F v d) {R : It → Hp → Prop}
    (k : ∀ J xs P src, ItD K m F H ds J xs P src → R J H) : ∃ a, v = .ref a ∧ (((∃ xs, SqL K H a xs) ∧ R (Itl K a) H) ∨ ((∃ xs, SqT K H a xs) ∧ R (Itt K a) H)) := by
  unfold seqD at hs
  split at hs
  · cases hs
    obtain ⟨a, xs, rfl, h1, h2⟩ := w.list sm
    refine ⟨a, rfl, .inl ⟨⟨xs, h1.sq⟩, k (Itl K a) xs (fun H1 => LsR K H1 a xs) (fun b => b = a) ⟨h2, h1, fun H1 H2 kp p => ?_, fun i H1 p hi => ⟨xs, xs[i], p.sq, List.getElem?_eq_getElem hi⟩, fun i H1 x H2 p _ y => ⟨y.1, y.2 xs p.sq⟩, fun i H1 p hi => ⟨xs, p.sq, hi⟩, fun hm b o hb e => ?_⟩⟩⟩
    · rcases p with (p | ⟨o, p⟩) | p
      · exact .inl (.inl (kp a _ rfl p))
      · exact .inl (.inr ⟨o, kp a _ rfl p⟩)
      · exact .inr p
    · subst hb
      cases hf hm with
      | lst f1 _ =>
        rcases f1 with (f1 | ⟨o', f1⟩) | ⟨_, _, f1, _⟩
        · have e2 := sm _ _ f1; rw [e] at e2; cases e2; exact f1
        · have e2 := sm _ _ f1; rw [e] at e2; cases e2; exact f1
        · rw [nk _ _ f1] at e; cases e
  · cases hs
    obtain ⟨a, xs, rfl, h1, h2⟩ := w.tuple sm
    refine ⟨a, rfl, .inr ⟨⟨xs, h1⟩, k (Itt K a) xs (fun H1 => SqT K H1 a xs) (fun b => b = a) ⟨h2, h1, fun H1 H2 kp p => ?_, fun i H1 p hi => ⟨xs, xs[i], p, List.getElem?_eq_getElem hi⟩, fun i H1 x H2 p _ y => ⟨y.1, y.2 xs p⟩, fun i H1 p hi => ⟨xs, p, hi⟩, fun hm b o hb e => ?_⟩⟩⟩
    · rcases p with (p | ⟨o, p⟩) | p
      · exact .inl (.inl (kp a _ rfl p))
      · exact .inl (.inr ⟨o, kp a _ rfl p⟩)
      · exact .inr p
    · subst hb
      cases hf hm with
      | tup f1 _ =>
        rcases f1 with (f1 | ⟨o', f1⟩) | ⟨o', _, _, f1, _⟩
        · have e2 := sm _ _ f1; rw [e] at e2; cases e2; exact f1
        · have e2 := sm _ _ f1; rw [e] at e2; cases e2; exact f1
        · rw [nk _ _ f1] at e; cases e
  · cases hs
def notLend : Ir → Bool
  | .lend _ => false
  | _ => true
theorem di_seq (hn : notLend ia = true) (ha : PE X a (tI X.K C m ia)) : PI X tg a (tIt X.K C m (.cons ia .nil)) := by
  refine pi_mono (pi_seq (pe_tInv ha)) fun σ H R q => ?_
  obtain ⟨α, F, ρ, ds, ρ', E, ev, k⟩ := q
  simp only [evI] at ev
  split at ev
  · cases ev
  · rename_i x ρ1 e1
    split at ev
    · cases ev
    · rename_i d f1
      split at ev
      · rename_i es f2
        cases ev
        refine ⟨α, F, ρ, x, ρ', E, e1, fun v F1 H1 A nk => ?_⟩
        refine seq_it (m := m) A.er.sub (view_of A.er A.rep f1) f2 nk (fun hm => ?_) fun J xs P src it => k J F1 H1 xs P src A.er A.st it
        subst hm
        rcases opd_frozen e1 with ⟨i, rfl⟩ | ⟨d', rfl⟩
        · cases hn
        · have e2 : some d' = some d := f1
          cases e2
          exact A.rep
      · cases ev
theorem int_it {K : PySem.W.Frag} {F H : Hp} {lo hi : Int} {ds : List PD} (h : rngD lo hi = some ds) : (-(2 ^ 62) ≤ lo ∧ lo < 2 ^ 62 ∧ -(2 ^ 62) ≤ hi ∧ hi < 2 ^ 62) ∧ ∃ xs, ItD K m F H ds (Itr lo (hi - lo).toNat) xs (fun _ => True) (fun _ => False) := by
  unfold rngD at h
  obtain ⟨hc, rfl⟩ := some_of_ite h
  have e1 : ((List.range (hi - lo).toNat).map fun (k : Nat) => PyData.int (lo + (k : Int))) = ((List.range (hi - lo).toNat).map fun (k : Nat) => lo + (k : Int)).map PyData.int := by rw [List.map_map]; rfl
  refine ⟨hc, ((List.range (hi - lo).toNat).map fun (k : Nat) => lo + (k : Int)).map V.int, by rw [e1]; exact rpAll_ints _, trivial, fun _ _ _ _ => trivial, fun i H1 _ hi' => ?_, fun i H1 x H2 _ hi' y => ?_, fun i H1 _ hi' => ?_, fun _ _ _ z => z.elim⟩
  · rw [List.length_map, List.length_map, List.length_range] at hi'
    exact hi'
  · obtain ⟨e2, e3⟩ := y
    rw [List.length_map, List.length_map, List.length_range] at hi'
    refine ⟨e2, ?_⟩
    rw [List.getElem?_map, List.getElem?_map, List.getElem?_range hi', e3]
    rfl
  · rw [List.length_map, List.length_map, List.length_range] at hi'
    exact hi'
theorem star1 {e : Expr} (h : tame e = true) (env : PySem.Env) : starEach [e] env = [(false, eval e env)] := tame_star h [] env
theorem di_rng1 {p : Pos} (hg : Gl X "range") (hm : X.mg "range" = none) (ha : DX X C a ia) : PI X tg (.Call (.Name "range" p) [a] [] pos) (tIt X.K C m (.rng1 ia)) := by
  refine pi_mono (pi_range1 hg hm (pa_cons ha.x pa_nil (tame_star ha.tm [] X.env)) (star1 ha.tm X.env)) fun σ H R q => ?_
  obtain ⟨α, F, ρ, ds, ρ', E, ev, k⟩ := q
  simp only [evI] at ev
  split at ev
  · rename_i j ρ1 e1
    split at ev
    · rename_i es f1
      cases ev
      refine ⟨α, F, ρ, _, ρ', E, e1, fun v F1 H1 A => ?_⟩
      obtain ⟨hc, xs, it⟩ := int_it (K := X.K) (m := m) (F := F1) (H := H1) f1
      have k1 := k _ F1 H1 xs _ _ A.er A.val it
      rw [Int.sub_zero] at k1
      exact ⟨j, by rw [int_rep A.rep], hc.2.2.1, hc.2.2.2, k1⟩
    · cases ev
  · cases ev
theorem di_rng2 {p : Pos} (hg : Gl X "range") (hm : X.mg "range" = none) (ha : DX X C a ia) (hb : DX X C b ib) : PI X tg (.Call (.Name "range" p) [a, b] [] pos) (tIt X.K C m (.rng2 ia ib)) := by
  have s1 := tame_star hb.tm [] X.env
  have s2 := tame_star ha.tm [b] X.env
  refine pi_mono (pi_range2 hg hm (pa_cons ha.x (pa_cons hb.x pa_nil s1) s2) (by rw [s2, s1]; rfl) s1) fun σ H R q => ?_
  obtain ⟨α, F, ρ, ds, ρ', E, ev, k⟩ := q
  simp only [evI] at ev
  split at ev
  · rename_i i ρ1 e1
    split at ev
    · rename_i j ρ2 e2
      split at ev
      · rename_i es f1
        cases ev
        refine ⟨α, F, ρ, _, ρ1, E, e1, fun v F1 H1 A => ⟨α, F1, ρ1, _, ρ', A.er, e2, fun u F2 H2 B => ?_⟩⟩
        obtain ⟨hc, xs, it⟩ := int_it (K := X.K) (m := m) (F := F2) (H := H2) f1
        exact ⟨i, j, by rw [int_rep A.rep, int_rep B.rep], ⟨hc.1, hc.2.1, hc.2.2.1, hc.2.2.2⟩, k _ F2 H2 xs _ _ B.er (A.val.trans B.val) it⟩
      · cases ev
    · cases ev
  · cases ev

/-! ### comprehensions -/
theorem wipeD_get {ρ : DEn} : ∀ {vs : List Nat} {j : Nat} {s : Slo}, (wipeD ρ vs)[j]? = some s → s = .un ∨ (j ∉ vs ∧ ρ[j]? = some s)
  | [], j, s, h => .inr ⟨by simp, h⟩
  | v :: vs, j, s, h => by
    unfold wipeD at h
    by_cases c : v = j
    · subst c
      by_cases hv : v < (wipeD ρ vs).length
      · rw [List.getElem?_set_self hv] at h; cases h; exact .inl rfl
      · rw [List.getElem?_eq_none (by rw [List.length_set]; omega)] at h; cases h
    · rw [List.getElem?_set_ne c] at h
      rcases wipeD_get h with z | ⟨z1, z2⟩
      · exact .inl z
      · refine .inr ⟨?_, z2⟩
        rw [List.mem_cons, not_or]
        exact ⟨fun e => c e.symm, z1⟩
theorem wipeD_len {ρ : DEn} : ∀ vs : List Nat, (wipeD ρ vs).length = ρ.length
  | [] => rfl
  | v :: vs => by unfold wipeD; rw [List.length_set, wipeD_len vs]
theorem blk_get {ρ : DEn} {vs : List Nat} {j : Nat} {s : Slo} (h : (blkD ρ vs)[j]? = some s) : s = .un ∨ ∃ d, s = .val d ∧ j ∉ vs ∧ ρ[j]? = some (.val d) := by
  unfold blkD at h
  rcases wipeD_get h with z | ⟨z1, z2⟩
  · exact .inl z
  · rw [List.getElem?_map] at z2
    cases e : ρ[j]? with
    | none => rw [e] at z2; cases z2
    | some t =>
      rw [e] at z2
      cases t with
      | un => cases z2; exact .inl rfl
      | val d => cases z2; exact .inr ⟨d, rfl, z1, rfl⟩
      | own _ _ => cases z2; exact .inl rfl
theorem wipe_out' {σ : L2.St} : ∀ {vs : List Nat} {j : Nat}, j ∉ vs → (wipe σ vs)[j]? = σ[j]?
  | [], _, _ => rfl
  | v :: vs, j, h => by
    unfold wipe
    rw [List.mem_cons, not_or] at h
    rw [List.getElem?_set_ne (fun e => h.1 e.symm), wipe_out' h.2]
theorem wipe_in {σ : L2.St} : ∀ {vs : List Nat} {j : Nat}, j ∈ vs → j < σ.length → (wipe σ vs)[j]? = some none
  | [], _, h, _ => by simp at h
  | v :: vs, j, h, hj => by
    unfold wipe
    by_cases c : v = j
    · subst c
      exact List.getElem?_set_self (by rw [wipe_length]; exact hj)
    · rw [List.getElem?_set_ne c]
      exact wipe_in ((List.mem_cons.mp h).elim (fun e => absurd e.symm c) id) hj
theorem blk_er {K : PySem.W.Frag} {α : Nat → Addr} {F H : Hp} {ρ : DEn} {σ : L2.St} (E : ER K α F H ρ σ) (vs : List Nat) : ER K α F H (blkD ρ vs) (wipe σ vs) ∧ ∀ b, ¬ OwnA (blkD ρ vs) (wipe σ vs) b := by
  have no : ∀ (j : Nat) (p : Option Nat) (ds : List PD), ¬ (blkD ρ vs)[j]? = some (Slo.own p ds) := fun j p ds h => by
    rcases blk_get h with z | ⟨d, z, _⟩ <;> cases z
  refine ⟨⟨E.sub, ?_, fun j d h => ?_, fun j p ds h => absurd h (no j p ds), fun j k p q ds es n h => absurd h (no j p ds)⟩, fun b ⟨j, p, ds, h, _⟩ => no j p ds h⟩
  · unfold blkD
    rw [wipeD_len, List.length_map, wipe_length]
    exact E.len
  · rcases blk_get h with z | ⟨d', z, h1, h2⟩
    · cases z
    · cases z
      obtain ⟨v, k1, k2⟩ := E.val j d h2
      exact ⟨v, by rw [wipe_out' h1]; exact k1, k2⟩
theorem wipe_same {σ σ2 : L2.St} {vs : List Nat} (hl : σ2.length = σ.length) (h : ∀ j, j ∉ vs → σ2[j]? = (wipe σ vs)[j]?) : wipe σ2 vs = wipe σ vs := by
  apply List.ext_getElem?
  intro j
  by_cases hj : j ∈ vs
  · by_cases hl2 : j < σ.length
    · rw [wipe_in hj (by rw [hl]; exact hl2), wipe_in hj hl2]
    · rw [List.getElem?_eq_none (by rw [wipe_length]; omega), List.getElem?_eq_none (by rw [wipe_length]; omega)]
  · rw [wipe_out' hj]; exact h j hj
/-- the made list so far, the block's environment -/
structure CompI (K : PySem.W.Frag) (α : Nat → Addr) (ρw : DEn) (σw : L2.St) (F1 H1 : Hp) (D : Addr) (acc : List PD) (H : Hp) : Prop where
  ex : ∃ F accV, ER K α F H ρw σw ∧ H D = some (.lst accV) ∧ F D = none ∧ RpAll K F accV acc ∧ Same H1 H ∧ Same F1 F ∧ ∀ b o, H1 b = some o → F1 b = none → F b = none
theorem dx_comp {elt : Expr} {ifs : List Expr} {scope : Scope} {own : List (Str × Nat)} {t it c e : Ir} {iter : Expr} (hc : X.calm = true) (hN : X.N.Nodup) (tm : tame iter = true) (hi : PI X tg iter (tIt X.K C true it)) (ok : BlkOk X.N X.env.scope scope own)
    (hg : ∀ (s : Shared) (H : Hp) (C' : Addr) (cl : List (Str × Addr)) (fp : List Addr), PG (X.blk s H scope (compEnvC scope cl C' X.env) fp) tg (tAsg X.K t))
    (ht : ∀ (s : Shared) (H : Hp) (C' : Addr) (cl : List (Str × Addr)) (fp : List Addr), PTs (X.blk s H scope (compEnvC scope cl C' X.env) fp) ifs (tT X.K C c))
    (he : ∀ (s : Shared) (H : Hp) (C' : Addr) (cl : List (Str × Addr)) (fp : List Addr), PE (X.blk s H scope (compEnvC scope cl C' X.env) fp) elt (tX X.K C e))
    (hv : ∀ j, j ∈ tgts t → j ∈ own.map (·.2)) : ∀ (σ : L2.St) (H : Hp) (Q : VK), tX X.K C (.comp t it c e (own.map (·.2))) σ H Q → tLc (tIt X.K C true it) (tAsg X.K t) (tT X.K C c) (tX X.K C e) (own.map (·.2)) σ H Q := by
  intro σ H Q q
  generalize hvs : own.map (·.2) = vs at q hv ⊢
  obtain ⟨α, F, ρ, r, ρ', E, ev, k⟩ := q
  simp only [evX] at ev
  split at ev
  · cases ev
  · rename_i ds ρ1 e1
    split at ev
    · rename_i fin f1
      cases ev
      refine ⟨α, F, ρ, ds, ρ', E, e1, fun J F1 H1 xs P src E1 st it D hD => ?_⟩
      have hF1 := free_of E1.sub hD
      obtain ⟨Ew, now⟩ := blk_er E1 vs
      have lx := rpAll_len it.rp
      have nown : ∀ (j : Nat) (p : Option Nat) (es : List PD), ¬ (blkD ρ' vs)[j]? = some (Slo.own p es) := fun j p es h => by
        rcases blk_get h with z | ⟨d, z, _⟩ <;> cases z
      refine ⟨fun i m H2 => m = xs.length - i ∧ i ≤ xs.length ∧ ∃ acc, compL t (evX C c) (evX C e) (blkD ρ' vs) (ds.drop i) acc = some fin ∧ CompI X.K α (blkD ρ' vs) (wipe σ vs) F1 H1 D acc H2, ⟨xs.length, by simp, Nat.zero_le _, [], by rw [List.drop_zero]; exact f1, F1, [], ⟨Ew.sub.trans (same_upd hD), Ew.len, Ew.val, fun j p es h => absurd h (nown j p es), Ew.inj⟩, upd_same, hF1, .nil, same_upd hD, Same.refl _, fun b o _ f => f⟩, ?_⟩
      · rintro i m H2 ⟨rfl, hi2, acc, ec, F2, accV, E2, hD2, hFD, ra, s1, s2, s3⟩
        have p2 : P H2 := it.keep H1 H2 (fun a o _ e => s1 a o e) it.now
        by_cases hlt : i < xs.length
        · refine .inr ⟨it.go i H2 p2 hlt, fun H3 => i + 1 ≤ xs.length ∧ ∃ acc, compL t (evX C c) (evX C e) (blkD ρ' vs) (ds.drop (i + 1)) acc = some fin ∧ CompI X.K α (blkD ρ' vs) (wipe σ vs) F1 H1 D acc H3, fun H3 ⟨h1, h2⟩ => ⟨xs.length - (i + 1), by omega, rfl, h1, h2⟩, fun x H3 y => ?_⟩
          obtain ⟨rfl, hx⟩ := it.yld i H2 x H3 p2 hlt y
          obtain ⟨d, hd, rd⟩ := rpAll_get' it.rp hx
          have hdi : i < ds.length := by omega
          have edr : ds.drop i = d :: ds.drop (i + 1) := by
            rw [List.drop_eq_getElem_cons hdi]
            rw [List.getElem?_eq_getElem hdi] at hd
            cases hd; rfl
          rw [edr] at ec
          simp only [compL] at ec
          split at ec
          · cases ec
          · rename_i ρ3 g1
            refine ⟨α, F2, blkD ρ' vs, d, ρ3, E2, rp_mono s2 _ _ rd, g1, fun σ3 E3 O3 len3 out3 => ⟨wipe_same (by rw [len3, wipe_length]) fun j hj => out3 j fun z => hj (hv j z), ?_⟩⟩
            have no3 : ∀ b, ¬ OwnA ρ3 σ3 b := fun b z => by
              obtain ⟨j, p, es, h, _⟩ := O3 b z
              rcases blk_get h with z | ⟨d, z, _⟩ <;> cases z
            -- the loop goes on behind a step that owns nothing
            have back : ∀ (ρ4 : DEn) (F4 H4 : Hp), Same F4 H4 → Stp (OwnA ρ3 σ3) (OwnA ρ4 σ3) F2 H3 F4 H4 → ER X.K α F4 H4 (blkD ρ' vs) (wipe σ vs) ∧ H4 D = some (.lst accV) ∧ F4 D = none ∧ RpAll X.K F4 accV acc ∧ Same H1 H4 ∧ Same F1 F4 ∧ ∀ b o, H1 b = some o → F1 b = none → F4 b = none := fun ρ4 F4 H4 sub st4 =>
              ⟨E2.grow st4 (fun b _ z => no3 b z) sub, st4.keep D _ hD2 (no3 D), st4.nof D _ hD2 (no3 D) hFD, rpAll_mono st4.ff _ _ ra, fun b o e => st4.keep b o (s1 b o e) (no3 b), s2.trans st4.ff, fun b o e f => st4.nof b o (s1 b o e) (no3 b) (s3 b o e f)⟩
            split at ec
            · rename_i ρ4 g2
              split at ec
              · rename_i r5 ρ5 g3
                split at ec
                · rename_i z g4
                  obtain ⟨hz, ec⟩ : acc.length < sizeLine ∧ compL t (evX C c) (evX C e) (blkD ρ' vs) (ds.drop (i + 1)) (acc ++ [z]) = some fin := by
                    by_cases hc : acc.length < sizeLine
                    · rw [if_pos hc] at ec; exact ⟨hc, ec⟩
                    · rw [if_neg hc] at ec; cases ec
                  refine ⟨α, F2, ρ3, true, ρ4, E3, g2, fun F4 H4 E4 st4 => iteT ⟨α, F4, ρ4, r5, ρ5, E4, g3, fun v F5 H5 A5 => ?_⟩⟩
                  obtain ⟨F6, A6⟩ := frz_aft A5 g4
                  obtain ⟨b1, b2, b3, b4, b5, b6, b7⟩ := back ρ5 F6 H5 A6.er.sub (st4.trans A6.val)
                  refine ⟨accV, b2, by rw [rpAll_len b4]; exact hz, hlt, acc ++ [z], ec, F6, accV ++ [v], ⟨fun b o e => ?_, b1.len, b1.val, fun j p es h => ?_, b1.inj⟩, upd_same, b3, rpAll_app b4 (.cons A6.rep .nil), fun b o e => ?_, b6, b7⟩
                  · rw [upd_ne]
                    · exact b1.sub b o e
                    · rintro rfl; rw [b3] at e; cases e
                  · rcases blk_get h with z | ⟨d, z, _⟩ <;> cases z
                  · rw [upd_ne]
                    · exact b5 b o e
                    · rintro rfl; rw [hD] at e; cases e
                · cases ec
              · cases ec
            · rename_i ρ4 g2
              refine ⟨α, F2, ρ3, false, ρ4, E3, g2, fun F4 H4 E4 st4 => iteF ?_⟩
              obtain ⟨b1, b2, b3, b4, b5, b6, b7⟩ := back ρ4 F4 H4 E4.sub st4
              exact ⟨hlt, acc, ec, F4, accV, b1, b2, b3, b4, b5, b6, b7⟩
            · cases ec
        · have ei : i = xs.length := by omega
          subst ei
          refine .inl ⟨it.stop _ H2 p2 (Nat.le_refl _), ?_⟩
          rw [List.drop_eq_nil_of_le (by omega)] at ec
          simp only [compL] at ec
          cases ec
          refine k (.ref D) F2 H2 (.after st (.of_made E1 ⟨E2.sub, ⟨s2, fun b o e _ => s1 b o e, fun b o e _ f => s3 b o e f, fun b z => ?_, fun b o e => ⟨o, s1 b o e⟩⟩, ⟨D, accV, rfl, hD2, hFD, ra⟩⟩))
          obtain ⟨_, _, _, z⟩ := z
          cases z
          exact .inr hD
    · cases ev
end
end Dv

set_option Elab.async false
set_option linter.all false
set_option maxRecDepth 100000
set_option maxHeartbeats 4000000
/-! statements -/
namespace Dv
open PySem PySem.Spec PyProof.Rows L2
def OutK (K : PySem.W.Frag) (α : Nat → Addr) (O : Addr → Prop) (F H : Hp) (E : Ends) : Out → Prop
  | .nx ρ' => ∀ (σ' : L2.St) (F' H' : Hp), ER K α F' H' ρ' σ' → Stp O (OwnA ρ' σ') F H F' H' → E.nx σ' H'
  | .bk ρ' => ∀ (σ' : L2.St) (F' H' : Hp), ER K α F' H' ρ' σ' → Stp O (OwnA ρ' σ') F H F' H' → E.bk σ' H'
  | .ct ρ' => ∀ (σ' : L2.St) (F' H' : Hp), ER K α F' H' ρ' σ' → Stp O (OwnA ρ' σ') F H F' H' → E.ct σ' H'
  | .rt r ρ' => ∀ (v : V) (σ' : L2.St) (F' H' : Hp), Aft K α O F H σ' ρ' r v F' H' → E.rt v H'
def tSt (K : PySem.W.Frag) (C : Cfg) (ir : Ir) : TS := fun E σ H => ∃ α F ρ out, ER K α F H ρ σ ∧ evS C ir ρ = some out ∧ OutK K α (OwnA ρ σ) F H E out
theorem OutK.trans {K : PySem.W.Frag} {α : Nat → Addr} {O O1 : Addr → Prop} {F H F1 H1 : Hp} {E : Ends} {out : Out} (s : Stp O O1 F H F1 H1) (k : OutK K α O F H E out) : OutK K α O1 F1 H1 E out := by
  cases out with
  | nx ρ' => exact fun σ' F' H' e st => k σ' F' H' e (s.trans st)
  | bk ρ' => exact fun σ' F' H' e st => k σ' F' H' e (s.trans st)
  | ct ρ' => exact fun σ' F' H' e st => k σ' F' H' e (s.trans st)
  | rt r ρ' => exact fun v σ' F' H' A => k v σ' F' H' ⟨A.er, A.rep, A.dist, s.trans A.st⟩
section
variable {X : Cx} {C : Cfg} {pos : Pos} {a b c e : Expr} {ia ib ic ie ir : Ir} {st : Stmt} {sts : List Stmt}
theorem ps_mono {t t' : TS} (h : PS X st t) (w : ∀ E σ H, t' E σ H → t E σ H) : PS X st t' := ⟨fun pins s σ H E I q => h.run pins s σ H E I (w E σ H q)⟩
theorem pss_mono {t t' : TS} (h : PSs X sts t) (w : ∀ E σ H, t' E σ H → t E σ H) : PSs X sts t' := ⟨fun pins s σ H E I q => h.run pins s σ H E I (w E σ H q)⟩
theorem ds_nil : PSs X [] (tSt X.K C .nil) := pss_mono pss_nil fun E σ H q => by
  obtain ⟨α, F, ρ, out, er, ev, k⟩ := q
  simp only [evS] at ev
  cases ev
  exact k σ F H er .refl
theorem ds_cons (h1 : PS X st (tSt X.K C ia)) (h2 : PSs X sts (tSt X.K C ib)) : PSs X (st :: sts) (tSt X.K C (.cons ia ib)) := pss_mono (pss_cons h1 h2) fun E σ H q => by
  obtain ⟨α, F, ρ, out, er, ev, k⟩ := q
  simp only [evS] at ev
  split at ev
  · rename_i ρ1 e1
    exact ⟨α, F, ρ, .nx ρ1, er, e1, fun σ' F' H' e' s => ⟨α, F', ρ1, out, e', ev, k.trans s⟩⟩
  · rename_i n
    cases out with
    | nx ρ1 => exact absurd ev (n ρ1)
    | bk ρ1 => exact ⟨α, F, ρ, _, er, ev, k⟩
    | ct ρ1 => exact ⟨α, F, ρ, _, er, ev, k⟩
    | rt r ρ1 => exact ⟨α, F, ρ, _, er, ev, k⟩
/-- a name's slot is given a fresh list -/
theorem ER.seto {K : PySem.W.Frag} {α : Nat → Addr} {F H : Hp} {ρ : DEn} {σ : L2.St} {i : Nat} {p : Option Nat} {ds : List PD} {v : V} (E : ER K α F H ρ σ) (hi : i < ρ.length) (r : RepS K F H v (.own p ds)) (dist : ∀ b, OwnV (.own p ds) v b → ¬ OwnA ρ σ b) :
    ER K α F H (ρ.set i (.own none ds)) (σ.set i (some v)) ∧ ∀ b, OwnA (ρ.set i (.own none ds)) (σ.set i (some v)) b → OwnA ρ σ b ∨ OwnV (.own p ds) v b := by
  obtain ⟨a, xs, rfl, h1, h2, h3⟩ := r
  have na := dist a ⟨p, ds, rfl, rfl⟩
  have hi' : i < σ.length := by rw [← E.len]; exact hi
  have hin : ∀ (j : Nat) (q : Option Nat) (es : List PD), (ρ.set i (.own none ds))[j]? = some (Slo.own q es) → (j = i ∧ q = none ∧ es = ds) ∨ (j ≠ i ∧ ρ[j]? = some (Slo.own q es)) := fun j q es e => by
    by_cases c : j = i
    · subst c; rw [List.getElem?_set_self hi] at e; cases e; exact .inl ⟨rfl, rfl, rfl⟩
    · rw [List.getElem?_set_ne (Ne.symm c)] at e; exact .inr ⟨c, e⟩
  refine ⟨⟨E.sub, by rw [List.length_set, List.length_set]; exact E.len, fun j d e => ?_, fun j q es e => ?_, fun j k q q' es es' n e1 e2 => ?_⟩, fun b ⟨j, q, es, e1, e2⟩ => ?_⟩
  · by_cases c : j = i
    · subst c; rw [List.getElem?_set_self hi] at e; cases e
    · rw [List.getElem?_set_ne (Ne.symm c)] at e ⊢
      exact E.val j d e
  · rcases hin j q es e with ⟨rfl, rfl, rfl⟩ | ⟨c, e⟩
    · exact ⟨a, xs, List.getElem?_set_self hi', h1, h2, h3, fun _ z => nomatch z⟩
    · rw [List.getElem?_set_ne (Ne.symm c)]
      exact E.own j q es e
  · have key : ∀ (j : Nat) (q : Option Nat) (es : List PD), j ≠ i → ρ[j]? = some (Slo.own q es) → σ[j]? ≠ some (some (V.ref a)) := fun j q es _ e z => na ⟨j, q, es, e, z⟩
    rcases hin j q es e1 with ⟨rfl, rfl, rfl⟩ | ⟨c1, f1⟩
    · rcases hin k q' es' e2 with ⟨rfl, _, _⟩ | ⟨c2, f2⟩
      · exact absurd rfl n
      · rw [List.getElem?_set_self hi', List.getElem?_set_ne (Ne.symm c2)]
        exact fun z => key k q' es' c2 f2 z.symm
    · rcases hin k q' es' e2 with ⟨rfl, _, _⟩ | ⟨c2, f2⟩
      · rw [List.getElem?_set_self hi', List.getElem?_set_ne (Ne.symm c1)]
        exact key j q es c1 f1
      · rw [List.getElem?_set_ne (Ne.symm c1), List.getElem?_set_ne (Ne.symm c2)]
        exact E.inj j k q q' es es' n f1 f2
  · rcases hin j q es e1 with ⟨rfl, _, _⟩ | ⟨c, f⟩
    · rw [List.getElem?_set_self hi'] at e2
      cases e2
      exact .inr ⟨p, ds, rfl, rfl⟩
    · rw [List.getElem?_set_ne (Ne.symm c)] at e2
      exact .inl ⟨j, q, es, f, e2⟩
/-- the slot's value, whatever the text stored it by -/
theorem set_weak {i : Nat} {keep : Bool} {E : Ends} {σ : L2.St} {H : Hp} (q : tSt X.K C (.set i keep ie) E σ H) : L2.tAsg (tX X.K C ie) (gName i) E σ H := by
  obtain ⟨α, F, ρ, out, er, ev, k⟩ := q
  simp only [evS] at ev
  split at ev
  · cases ev
  · rename_i r ρ1 e1
    split at ev
    · rename_i hi
      split at ev
      · split at ev
        · rename_i p ds
          cases ev
          refine ⟨α, F, ρ, _, ρ1, er, e1, fun v F1 H1 A => ?_⟩
          obtain ⟨e2, o2⟩ := A.er.seto hi A.rep A.dist
          exact k _ F1 H1 e2 (A.st.mono (fun _ z => z) fun b z => o2 b z)
        · cases ev
      · split at ev
        · rename_i d f1
          cases ev
          refine ⟨α, F, ρ, _, ρ1, er, e1, fun v F1 H1 A => ?_⟩
          obtain ⟨F2, B⟩ := frz_aft A f1
          obtain ⟨e2, o2⟩ := B.er.setv (i := i) B.rep
          exact k _ F2 H1 e2 (B.val.mono (fun _ z => z) o2)
        · cases ev
    · cases ev
theorem ds_set {i : Nat} {keep : Bool} {x : Str} {p : Pos} (hN : X.N.Nodup) (hi : X.N[i]? = some x) (hx : Loc X.env.scope x) (he : PE X e (tX X.K C ie)) (hs : swapsWith e (some (.Name x p)) pos.line X.env = pure false) (hf : X.fn x = true ∨ X.env.scope.names.lookup x = some .local) :
    PS X (.Assign [.Name x p] e pos) (tSt X.K C (.set i keep ie)) := ps_mono (ps_set hN hi hx he hs hf) fun E σ H q => set_weak q
theorem ds_unp {t : Ir} (he : PE X e (tX X.K C ie)) (hg : PG X a (tAsg X.K t)) (hs : swapsWithSole [a] e pos.line X.env = pure false) (hw : swappedStores [a] e X.env = pure none)
    (h1 : (assignEach [a] X.env).map (·.2) = [assign a X.env]) : PS X (.Assign [a] e pos) (tSt X.K C (.unp t ie)) := ps_mono (ps_asg he hg hs hw h1) fun E σ H q => by
  obtain ⟨α, F, ρ, out, er, ev, k⟩ := q
  simp only [evS] at ev
  split at ev
  · cases ev
  · rename_i r ρ1 e1
    split at ev
    · cases ev
    · rename_i d f1
      split at ev
      · rename_i ρ2 f2
        cases ev
        refine ⟨α, F, ρ, r, ρ1, er, e1, fun v F1 H1 A => ?_⟩
        obtain ⟨F2, B⟩ := frz_aft A f1
        exact ⟨α, F2, ρ1, d, ρ2, B.er, B.rep, f2, fun σ' e2 o2 _ _ => k σ' F2 H1 e2 (B.val.mono (fun _ z => z) o2)⟩
      · cases ev
theorem ds_sti {i : Nat} {x : Str} {np p : Pos} (hv : PE X (.Name x np) (tVar i)) (hb : DX X C b ib) (he : PE X e (tX X.K C ie)) (hs : swapsWithSole [.Subscript (.Name x np) b p] e pos.line X.env = pure false) (hw : swappedStores [.Subscript (.Name x np) b p] e X.env = pure none)
    (ha : ∀ v, assign (.Subscript (.Name x np) b p) X.env v = (do
      let ov ← holding [v] (eval (.Name x np) X.env)
      let iv ← holding [v, ov] (eval b X.env)
      standAt p
      holding [v, ov, iv] (setItem ov iv v)
      release [v, ov, iv] [])) : PS X (.Assign [.Subscript (.Name x np) b p] e pos) (tSt X.K C (.sti i ib ie)) := ps_mono (ps_asg he (pg_sub hv hb.x set_list ha) hs hw rfl) fun E σ H q => by
  obtain ⟨α, F, ρ, out, er, ev, k⟩ := q
  simp only [evS] at ev
  split at ev
  · cases ev
  · rename_i r ρ1 e1
    split at ev
    · cases ev
    · rename_i d f1
      split at ev
      · rename_i p0 ds0 f0
        split at ev
        · rename_i kk ρ2 f2
          split at ev
          · rename_i pp ds f3
            split at ev
            · rename_i j f4
              cases ev
              refine ⟨α, F, ρ, r, ρ1, er, e1, fun v F1 H1 A => ?_⟩
              obtain ⟨F2, B⟩ := frz_aft A f1
              obtain ⟨w, xs0, hw, _⟩ := B.er.own i p0 ds0 f0
              refine ⟨.ref w, hw, α, F2, ρ1, _, ρ2, B.er, f2, fun u F3 H3 G => ?_⟩
              obtain ⟨a0, ys, g1, g2, g3, g4, _⟩ := G.er.own i pp ds f3
              rw [hw] at g1
              cases g1
              obtain ⟨e4, s4⟩ := G.er.write f3 hw (rpAll_set (rp_mono G.st.ff _ _ B.rep) j g4)
              exact ⟨w, ys, kk, j, rfl, int_rep G.rep, g2, by rw [rpAll_len g4]; exact f4, k σ F3 _ e4 (B.val.trans (G.val.trans s4))⟩
            · cases ev
          · cases ev
        · cases ev
      · cases ev
theorem ds_ex (he : PE X e (tX X.K C ie)) (hs : swapsWith e none pos.line X.env = pure false) : PS X (.Expr e pos) (tSt X.K C (.ex ie)) := ps_mono (ps_expr he hs) fun E σ H q => by
  obtain ⟨α, F, ρ, out, er, ev, k⟩ := q
  simp only [evS] at ev
  split at ev
  · rename_i r ρ1 e1
    cases ev
    exact ⟨α, F, ρ, r, ρ1, er, e1, fun v F1 H1 A => k σ F1 H1 A.er (A.st.mono (fun _ z => z) fun _ z => .inl z)⟩
  · cases ev
theorem ds_pas : PS X (.Pass pos) (tSt X.K C .pas) := ps_mono ps_pass fun E σ H q => by
  obtain ⟨α, F, ρ, out, er, ev, k⟩ := q
  simp only [evS] at ev
  cases ev
  exact k σ F H er .refl
theorem ds_brk : PS X (.Break pos) (tSt X.K C .brk) := ps_mono ps_break fun E σ H q => by
  obtain ⟨α, F, ρ, out, er, ev, k⟩ := q
  simp only [evS] at ev
  cases ev
  exact k σ F H er .refl
theorem ds_cnt : PS X (.Continue pos) (tSt X.K C .cnt) := ps_mono ps_continue fun E σ H q => by
  obtain ⟨α, F, ρ, out, er, ev, k⟩ := q
  simp only [evS] at ev
  cases ev
  exact k σ F H er .refl
theorem ds_ifs {as bs : List Stmt} (hc : PT X c (tT X.K C ic)) (ha : PSs X as (tSt X.K C ia)) (hb : PSs X bs (tSt X.K C ib)) : PS X (.If c as bs pos) (tSt X.K C (.ifs ic ia ib)) := ps_mono (ps_if hc ha hb) fun E σ H q => by
  obtain ⟨α, F, ρ, out, er, ev, k⟩ := q
  simp only [evS] at ev
  split at ev
  · rename_i ρ1 e1
    exact ⟨α, F, ρ, true, ρ1, er, e1, fun F1 H1 e2 s => iteT ⟨α, F1, ρ1, out, e2, ev, k.trans s⟩⟩
  · rename_i ρ1 e1
    exact ⟨α, F, ρ, false, ρ1, er, e1, fun F1 H1 e2 s => iteF ⟨α, F1, ρ1, out, e2, ev, k.trans s⟩⟩
  · cases ev
theorem ds_whl {bs : List Stmt} (hp : PassesOwn (model X.prog X.w) X.A X.env X.xe) (hc : PT X c (tT X.K C ic)) (hb : PSs X bs (tSt X.K C ib)) : PS X (.While c bs [] pos) (tSt X.K C (.whl ic ib)) := ps_mono (ps_while hp hc hb) fun E σ H q => by
  obtain ⟨α, F, ρ, out, er, ev, k⟩ := q
  simp only [evS] at ev
  refine ⟨fun m σ' H' => ∃ F' ρ', ER X.K α F' H' ρ' σ' ∧ whileL (evX C ic) (evS C ib) m ρ' = some out ∧ OutK X.K α (OwnA ρ' σ') F' H' E out, ⟨wfuel, F, ρ, er, ev, k⟩, ?_⟩
  rintro m σ1 H1 ⟨F1, ρ1, e1, ev1, k1⟩
  cases m with
  | zero => simp only [whileL] at ev1; cases ev1
  | succ m =>
    simp only [whileL] at ev1
    split at ev1
    · rename_i ρ2 f1
      refine ⟨α, F1, ρ1, true, ρ2, e1, f1, fun F2 H2 e2 s2 => iteT ⟨fun σ' H' => ∃ F' ρ', ER X.K α F' H' ρ' σ' ∧ whileL (evX C ic) (evS C ib) m ρ' = some out ∧ OutK X.K α (OwnA ρ' σ') F' H' E out, fun σ' H' z => ⟨m, Nat.lt_succ_self m, z⟩, ?_⟩⟩
      have k2 := k1.trans s2
      split at ev1
      · rename_i ρ3 f2
        exact ⟨α, F2, ρ2, _, e2, f2, fun σ3 F3 H3 e3 s3 => ⟨F3, ρ3, e3, ev1, k2.trans s3⟩⟩
      · rename_i ρ3 f2
        exact ⟨α, F2, ρ2, _, e2, f2, fun σ3 F3 H3 e3 s3 => ⟨F3, ρ3, e3, ev1, k2.trans s3⟩⟩
      · rename_i ρ3 f2
        cases ev1
        exact ⟨α, F2, ρ2, _, e2, f2, k2⟩
      · rename_i r ρ3 f2
        cases ev1
        exact ⟨α, F2, ρ2, _, e2, f2, k2⟩
      · cases ev1
    · rename_i ρ2 f1
      cases ev1
      exact ⟨α, F1, ρ1, false, ρ2, e1, f1, fun F2 H2 e2 s2 => iteF (k1 σ1 F2 H2 e2 s2)⟩
    · cases ev1
theorem ds_fors {bs : List Stmt} {t it : Ir} {tg iter : Expr} (hp : PassesOwn (model X.prog X.w) X.A X.env X.xe) (hc : X.calm = true) (tm : tame iter = true) (hi : PI X tg iter (tIt X.K C false it)) (hg : PG X tg (tAsg X.K t)) (hb : PSs X bs (tSt X.K C ib)) :
    PS X (.For tg iter bs [] pos) (tSt X.K C (.fors t it ib)) := ps_mono (ps_for hp hc hi hg hb fun x => tame_fold tm X.env x) fun E σ H q => by
  obtain ⟨α, F, ρ, out, er, ev, k⟩ := q
  simp only [evS] at ev
  split at ev
  · cases ev
  · rename_i ds ρ1 f1
    refine ⟨α, F, ρ, ds, ρ1, er, f1, fun J F1 H1 xs P src e1 s1 it => ?_⟩
    have lx := rpAll_len it.rp
    refine ⟨fun i m σ' H' => m = xs.length - i ∧ i ≤ xs.length ∧ ∃ F' ρ', ER X.K α F' H' ρ' σ' ∧ Same F1 F' ∧ forL t (evS C ib) (ds.drop i) ρ' = some out ∧ OutK X.K α (OwnA ρ' σ') F' H' E out, ⟨xs.length, by simp, Nat.zero_le _, F1, ρ1, e1, Same.refl _, by rw [List.drop_zero]; exact ev, k.trans s1⟩, ?_⟩
    rintro i m σ2 H2 ⟨rfl, hi2, F2, ρ2, e2, sm, ev2, k2⟩
    have p2 : P H2 := it.keep H1 H2 (fun a o z e => e2.sub a o (sm a o (it.frz rfl a o z e))) it.now
    by_cases hlt : i < xs.length
    · refine .inr ⟨it.go i H2 p2 hlt, fun σ' H' => ∃ F' ρ', ER X.K α F' H' ρ' σ' ∧ Same F1 F' ∧ forL t (evS C ib) (ds.drop (i + 1)) ρ' = some out ∧ OutK X.K α (OwnA ρ' σ') F' H' E out, fun σ' H' z => ⟨xs.length - (i + 1), by omega, rfl, hlt, z⟩, fun x H3 y => ?_⟩
      obtain ⟨rfl, hx⟩ := it.yld i H2 x H3 p2 hlt y
      obtain ⟨d, hd, rd⟩ := rpAll_get' it.rp hx
      have hdi : i < ds.length := by omega
      have edr : ds.drop i = d :: ds.drop (i + 1) := by
        rw [List.drop_eq_getElem_cons hdi]
        rw [List.getElem?_eq_getElem hdi] at hd
        cases hd; rfl
      rw [edr] at ev2
      simp only [forL] at ev2
      split at ev2
      · cases ev2
      · rename_i ρ3 g1
        refine ⟨α, F2, ρ2, d, ρ3, e2, rp_mono sm _ _ rd, g1, fun σ3 e3 o3 _ _ => ?_⟩
        have k3 : OutK X.K α (OwnA ρ3 σ3) F2 H3 E out := k2.trans (Stp.refl.mono (fun _ z => z) o3)
        split at ev2
        · rename_i ρ4 g2
          exact ⟨α, F2, ρ3, _, e3, g2, fun σ4 F4 H4 e4 s4 => ⟨F4, ρ4, e4, sm.trans s4.ff, ev2, k3.trans s4⟩⟩
        · rename_i ρ4 g2
          exact ⟨α, F2, ρ3, _, e3, g2, fun σ4 F4 H4 e4 s4 => ⟨F4, ρ4, e4, sm.trans s4.ff, ev2, k3.trans s4⟩⟩
        · rename_i ρ4 g2
          cases ev2
          exact ⟨α, F2, ρ3, _, e3, g2, k3⟩
        · rename_i r ρ4 g2
          cases ev2
          exact ⟨α, F2, ρ3, _, e3, g2, k3⟩
        · cases ev2
    · have ei : i = xs.length := by omega
      subst ei
      rw [List.drop_eq_nil_of_le (by omega)] at ev2
      simp only [forL] at ev2
      cases ev2
      exact .inl ⟨it.stop _ H2 p2 (Nat.le_refl _), k2 σ2 F2 H2 e2 .refl⟩
end
end Dv

set_option Elab.async false
set_option linter.all false
set_option maxRecDepth 100000
set_option maxHeartbeats 4000000
/-! isinstance, return, a def's body -/
namespace Dv
open PySem PySem.Spec PyProof.Rows L2
def tyN : Ty → String
  | .int => "int" | .str => "str" | .bool => "bool" | .tuple => "tuple" | .list => "list"
def tyNS : Ty → Str
  | .int => "int" | .str => "str" | .bool => "bool" | .tuple => "tuple" | .list => "list"
def tyOf : PD → Option String
  | .none => some "NoneType" | .bool _ => some "bool" | .int _ => some "int" | .str _ => some "str" | .list _ => some "list" | .tuple _ => some "tuple"
  | .dict _ => none
theorem boot_ty (t : Ty) : bootBuiltins (tyNS t) = some (.type (tyN t)) := by cases t <;> decide +kernel
theorem kit_ok {d : PD} {n : String} (t : Ty) (h : tyOf d = some n) : kitB n (tyN t) = some (tyOk t d) := by
  cases d <;> cases h <;> cases t <;> simp only [tyOk, tyN] <;> decide +kernel
theorem made_junk {K : PySem.W.Frag} {F H : Hp} {z : V} {d : PD} {p : Addr} {o : HO} (s : Same F H) (hp : H p = none) (q : Rp K F z d) : Made K F H (.val d) z F (upd H p o) :=
  ⟨s.trans (same_upd hp), ⟨Same.refl _, fun b o e _ => same_upd hp b o e, fun _ _ _ _ f => f, fun b z => absurd z ownV_val, fun b o e => ⟨o, same_upd hp b o e⟩⟩, q⟩
section
variable {X : Cx} {C : Cfg} {a : Expr} {ia ir : Ir} {pos : Pos}
theorem ty_view {K : PySem.W.Frag} {F H : Hp} {v : V} {d : PD} {n : String} (sm : Same F H) (w : Vp K F H v d) (h : tyOf d = some n) : TyX K H v (.type n) := by
  cases d with
  | none => cases h; rw [w.non]; exact .base .non
  | bool b => cases h; rw [w.bl]; exact .base (.bl b)
  | int i => cases h; rw [w.int]; exact .base (.int i)
  | str x => cases h; rw [w.str]; exact .base (.str x)
  | list ds =>
    cases h
    obtain ⟨a, xs, rfl, (h1 | ⟨o, h1⟩) | ⟨_, _, h1, _⟩, _⟩ := w.list sm
    · exact .base (.lst h1)
    · exact .base (.frz h1)
    · exact .kList h1 rfl
  | tuple ds =>
    cases h
    obtain ⟨a, xs, rfl, (h1 | ⟨o, h1⟩) | ⟨o, _, _, h1, h2, _⟩, _⟩ := w.tuple sm
    · exact .base (.tup h1)
    · exact .fTuple h1
    · exact .kTuple h1 h2
  | dict _ => cases h
theorem vp_mono {K : PySem.W.Frag} {F H H' : Hp} {v : V} {d : PD} (s : Same H H') (w : Vp K F H v d) : Vp K F H' v d := w.imp id fun ⟨a, xs, ds, e1, e2, h, r⟩ => ⟨a, xs, ds, e1, e2, s _ _ h, r⟩
theorem isi_ty {ts : List Ty} {d : PD} {b : Bool} (h : isiD ts d = some b) : ∃ n, tyOf d = some n ∧ b = ts.any fun t => tyOk t d := by
  cases d <;> simp only [isiD] at h <;> cases h <;> exact ⟨_, rfl, rfl⟩
theorem isi_step {ts : List Ty} {σ : L2.St} {H : Hp} {Q : VK} {K : PySem.W.Frag} (q : tX K C (.isi ts ia) σ H Q) {P : V → Hp → Prop}
    (go : ∀ F H v d n, Same F H → Vp K F H v d → tyOf d = some n → (∀ F' H', Made K F H (.val (.bool (ts.any fun t => tyOk t d))) (.bl (ts.any fun t => tyOk t d)) F' H' → Q (.bl (ts.any fun t => tyOk t d)) H') → P v H) : tI K C true ia σ H P := by
  obtain ⟨α, F, ρ, r, ρ', E, ev, k⟩ := q
  simp only [evX] at ev
  split at ev
  · cases ev
  · rename_i x ρ1 e1
    split at ev
    · cases ev
    · rename_i d f1
      split at ev
      · rename_i b f2
        cases ev
        obtain ⟨n, h1, rfl⟩ := isi_ty f2
        exact ⟨α, F, ρ, x, ρ', E, e1, fun v F1 H1 A => go F1 H1 v d n A.er.sub (view_of A.er A.rep f1) h1 fun F' H' M => k _ F' H' (.after A.st (.of_made A.er M))⟩
      · cases ev
theorem pe_ty {t : Ty} {p : Pos} (hg : Gl X (tyNS t)) (hm : X.mg (tyNS t) = none) : PE X (.Name (tyNS t) p) (tC (.ty (tyN t))) :=
  pe_bltn hg hm (boot_ty t) rfl (by cases t <;> decide) (by cases t <;> decide)
theorem boot_isi : bootBuiltins "isinstance" = some (.builtin "isinstance") := by decide +kernel
theorem dx_isi1 {t : Ty} {np p : Pos} (hg0 : Gl X "isinstance") (hm0 : X.mg "isinstance" = none) (hg : Gl X (tyNS t)) (hm : X.mg (tyNS t) = none) (ha : DX X C a ia) : DX X C (.Call (.Name "isinstance" np) [a, .Name (tyNS t) p] [] pos) (.isi [t] ia) := by
  have s1 := tame_star ha.tm [.Name (tyNS t) p] X.env
  refine .mk' (pe_mono (pe_callB call_isi hg0 hm0 boot_isi (pa_cons (ha.o true) (pa_cons (pe_ty hg hm) pa_nil rfl) s1) (by decide) (by decide) s1 rfl) fun σ H Q q => ?_) rfl rfl rfl
  exact isi_step q fun F1 H1 v d n sm w h1 q1 => ⟨v, _, _, _, _, rfl, .ty _, ty_view sm w h1, kit_ty (kit_ok t h1), by
    have q2 := q1 F1 H1 (made_same sm (.bl _))
    rw [List.any_cons, List.any_nil, Bool.or_false] at q2
    exact q2⟩
theorem dx_isi2 {t t' : Ty} {np p p' tp : Pos} {x1 : Nat} (hg0 : Gl X "isinstance") (hm0 : X.mg "isinstance" = none) (hg : Gl X (tyNS t)) (hm : X.mg (tyNS t) = none) (hg' : Gl X (tyNS t')) (hm' : X.mg (tyNS t') = none) (ha : DX X C a ia) :
    DX X C (.Call (.Name "isinstance" np) [a, .Tuple [.Name (tyNS t) p, .Name (tyNS t') p'] x1 tp] [] pos) (.isi [t, t'] ia) := by
  have s1 := tame_star ha.tm [.Tuple [.Name (tyNS t) p, .Name (tyNS t') p'] x1 tp] X.env
  refine .mk' (pe_mono (pe_callB call_isiT hg0 hm0 boot_isi (pa_cons (ha.o true) (pa_cons (pe_tup (pa_cons (pe_ty hg hm) (pa_cons (pe_ty hg' hm') pa_nil rfl) rfl)) pa_nil rfl) s1) (by decide) (by decide) s1 rfl) fun σ H Q q => ?_) rfl rfl rfl
  refine isi_step q fun F1 H1 v d n sm w h1 q1 => ⟨by show 2 ≤ sizeLine; decide, fun tp hp => ?_⟩
  have k1 := kit_ok t h1
  have k2 := kit_ok t' h1
  have ka : PySem.W.kitAny X.K (.type n) [.type (tyN t), .type (tyN t')] = some ([t, t'].any fun t => tyOk t d) := by
    refine kitAny_cons (kit_ty k1) (fun hb => ?_) fun hb => ?_
    · refine kitAny_cons (kit_ty k2) (fun hb2 => ?_) fun hb2 => ?_
      · rw [kitAny_nil]; simp [hb, hb2]
      · simp [hb2]
    · simp [hb]
  refine ⟨v, tp, [.ty (tyN t), .ty (tyN t')], _, [.type (tyN t), .type (tyN t')], _, rfl, upd_same, .cons (.ty _) (.cons (.ty _) .nil), ?_, ka, q1 F1 _ (made_junk sm hp (.bl _))⟩
  exact ty_view (sm.trans (same_upd hp)) (vp_mono (same_upd hp) w) h1
/-! ### return -/
theorem ds_ret {e : Expr} {ie : Ir} (hn : ∀ i, ie ≠ .var i) (he : PE X e (tX X.K C ie)) : PS X (.Return (some e) pos) (tSt X.K C (.ret ie)) := ps_mono (ps_ret he) fun E σ H q => by
  obtain ⟨α, F, ρ, out, er, ev, k⟩ := q
  have ev' : (match evX C ie ρ with
      | some (r, ρ1) => some (Out.rt r ρ1)
      | none => none) = some out := by
    cases ie <;> first | exact absurd rfl (hn _) | (simp only [evS] at ev; exact ev)
  split at ev'
  · rename_i r ρ1 e1
    cases ev'
    exact ⟨α, F, ρ, r, ρ1, er, e1, fun v F1 H1 A => k v σ F1 H1 A⟩
  · cases ev'
theorem ds_retV {i : Nat} {x : Str} {np : Pos} (hv : PE X (.Name x np) (tVar i)) : PS X (.Return (some (.Name x np)) pos) (tSt X.K C (.ret (.var i))) := ps_mono (ps_ret hv) fun E σ H q => by
  obtain ⟨α, F, ρ, out, er, ev, k⟩ := q
  simp only [evS] at ev
  split at ev
  · rename_i ds e0
    cases ev
    obtain ⟨a, xs, h1, h2, h3, h4, _⟩ := er.own i _ ds e0
    have hi : i < ρ.length := (List.getElem?_eq_some_iff.mp e0).1
    have hin : ∀ (j : Nat) (s : Slo), (ρ.set i .un)[j]? = some s → s = .un ∨ (j ≠ i ∧ ρ[j]? = some s) := fun j s e => by
      by_cases c : j = i
      · subst c; rw [List.getElem?_set_self hi] at e; cases e; exact .inl rfl
      · rw [List.getElem?_set_ne (Ne.symm c)] at e; exact .inr ⟨c, e⟩
    have hin' : ∀ (j : Nat) (q : Option Nat) (es : List PD), (ρ.set i .un)[j]? = some (Slo.own q es) → j ≠ i ∧ ρ[j]? = some (Slo.own q es) := fun j q es e => (hin j _ e).elim (fun z => nomatch z) id
    refine ⟨.ref a, h1, k (.ref a) σ F H ⟨⟨er.sub, by rw [List.length_set]; exact er.len, fun j d e => ?_, fun j q es e => er.own j q es (hin' j q es e).2, fun j l q q' es es' n e1 e2 => er.inj j l q q' es es' n (hin' _ _ _ e1).2 (hin' _ _ _ e2).2⟩, ⟨a, xs, rfl, h2, h3, h4⟩, fun b z w => ?_, Same.refl _, fun b o e _ => e, fun b o _ _ f => f, fun b z => .inl ?_, fun b o e => ⟨o, e⟩⟩⟩
    · rcases hin j _ e with z | ⟨_, e⟩
      · cases z
      · exact er.val j d e
    · obtain ⟨_, _, _, z⟩ := z
      cases z
      obtain ⟨j, q, es, e1, e2⟩ := w
      obtain ⟨n, e1⟩ := hin' j q es e1
      exact er.inj j i q none es ds n e1 e0 (by rw [e2, h1])
    · rcases z with ⟨j, q, es, e1, e2⟩ | ⟨_, _, _, z⟩
      · exact ⟨j, q, es, (hin' j q es e1).2, e2⟩
      · cases z
        exact ⟨i, none, ds, e0, h1⟩
  · rename_i d e0
    cases ev
    obtain ⟨v, h1, h2⟩ := er.val i d e0
    exact ⟨v, h1, k v σ F H (.of_made er (made_same er.sub h2))⟩
  · cases ev
theorem ds_retN : PS X (.Return none pos) (tSt X.K C (.ret .non)) := ps_mono ps_retN fun E σ H q => by
  obtain ⟨α, F, ρ, out, er, ev, k⟩ := q
  simp only [evS, evX] at ev
  cases ev
  exact k .non σ F H (.of_made er (made_same er.sub .non))
end

/-! ### a def, by its body -/
theorem outs_get {ρ : DEn} : ∀ {as : DEn} {n : Nat} {os : DEn}, outsA ρ n as = some os → os.length = as.length ∧ ∀ (j : Nat) (s : Slo), os[j]? = some s → s = .un ∨ ∃ p ds ds', s = .own none ds ∧ as[j]? = some (Slo.own p ds') ∧ ρ[n + j]? = some (Slo.own (some (n + j)) ds)
  | [], n, os, h => by
    simp only [outsA] at h
    cases h
    exact ⟨rfl, fun j s e => by simp at e⟩
  | a :: as, n, os, h => by
    have rcv : ∀ {os'}, outsA ρ (n + 1) as = some os' → _ := fun {os'} h' => outs_get (n := n + 1) (os := os') h'
    cases a with
    | own p ds =>
      simp only [outsA] at h
      split at h
      · rename_i j ds2 os2 e1 e2
        obtain ⟨hc, e⟩ := some_of_ite h
        cases e
        obtain ⟨l, g⟩ := rcv e2
        refine ⟨by rw [List.length_cons, List.length_cons, l], fun j' s e => ?_⟩
        cases j' with
        | zero =>
          simp at e
          subst e
          refine .inr ⟨p, ds2, ds, rfl, rfl, ?_⟩
          rw [Nat.add_zero, e1, hc]
        | succ j' =>
          rcases g j' s (by simpa using e) with z | ⟨p', x, y, z1, z2, z3⟩
          · exact .inl z
          · refine .inr ⟨p', x, y, z1, by simpa using z2, ?_⟩
            rw [show n + (j' + 1) = n + 1 + j' by omega]; exact z3
      · cases h
    | un =>
      simp only [outsA] at h
      split at h
      · rename_i os2 e2
        cases h
        obtain ⟨l, g⟩ := rcv e2
        refine ⟨by rw [List.length_cons, List.length_cons, l], fun j' s e => ?_⟩
        cases j' with
        | zero => simp at e; exact .inl e.symm
        | succ j' =>
          rcases g j' s (by simpa using e) with z | ⟨p', x, y, z1, z2, z3⟩
          · exact .inl z
          · refine .inr ⟨p', x, y, z1, by simpa using z2, ?_⟩
            rw [show n + (j' + 1) = n + 1 + j' by omega]; exact z3
      · cases h
    | val d =>
      simp only [outsA] at h
      split at h
      · rename_i os2 e2
        cases h
        obtain ⟨l, g⟩ := rcv e2
        refine ⟨by rw [List.length_cons, List.length_cons, l], fun j' s e => ?_⟩
        cases j' with
        | zero => simp at e; exact .inl e.symm
        | succ j' =>
          rcases g j' s (by simpa using e) with z | ⟨p', x, y, z1, z2, z3⟩
          · exact .inl z
          · refine .inr ⟨p', x, y, z1, by simpa using z2, ?_⟩
            rw [show n + (j' + 1) = n + 1 + j' by omega]; exact z3
      · cases h
theorem tag_get {as : DEn} {j : Nat} {s : Slo} (h : (tagA as)[j]? = some s) : (∃ d, s = .val d ∧ as[j]? = some (.val d)) ∨ (s = .un) ∨ ∃ p ds, s = .own (some j) ds ∧ as[j]? = some (Slo.own p ds) := by
  unfold tagA at h
  rw [List.getElem?_mapIdx] at h
  cases e : as[j]? with
  | none => rw [e] at h; cases h
  | some t =>
    rw [e] at h
    cases t with
    | un => cases h; exact .inr (.inl rfl)
    | val d => cases h; exact .inl ⟨d, rfl, rfl⟩
    | own p ds => cases h; exact .inr (.inr ⟨p, ds, rfl, rfl⟩)
/-- the addresses of the lists that are lent -/
def addrOf (vs : List V) (j : Nat) : Addr := match vs[j]? with
  | some (.ref a) => a
  | _ => 0
theorem start_get {N : List Str} {vs : List V} {j : Nat} {v : V} (h : vs[j]? = some v) : (L2.start N vs)[j]? = some (some v) := by
  unfold L2.start
  have hj : j < vs.length := (List.getElem?_eq_some_iff.mp h).1
  rw [List.getElem?_append_left (by simpa using hj), List.getElem?_map, h]; rfl
theorem body_er {K : PySem.W.Frag} {α : Nat → Addr} {F H : Hp} {N : List Str} {as : DEn} {vs : List V} (E : ER K α F H as (vs.map some)) (hl : vs.length ≤ N.length) :
    ER K (addrOf vs) F H (tagA as ++ List.replicate (N.length - vs.length) .un) (L2.start N vs) ∧ ∀ b, OwnA (tagA as ++ List.replicate (N.length - vs.length) .un) (L2.start N vs) b → OwnA as (vs.map some) b := by
  have la : (tagA as).length = as.length := by unfold tagA; rw [List.length_mapIdx]
  have lv : as.length = vs.length := by rw [E.len, List.length_map]
  have get : ∀ (j : Nat) (s : Slo), (tagA as ++ List.replicate (N.length - vs.length) .un)[j]? = some s → s = .un ∨ (∃ d, s = .val d ∧ as[j]? = some (.val d)) ∨ ∃ p ds, s = .own (some j) ds ∧ as[j]? = some (Slo.own p ds) := fun j s h => by
    by_cases c : j < (tagA as).length
    · rw [List.getElem?_append_left c] at h
      rcases tag_get h with z | z | z
      · exact .inr (.inl z)
      · exact .inl z
      · exact .inr (.inr z)
    · rw [List.getElem?_append_right (by omega), List.getElem?_replicate] at h
      split at h
      · cases h; exact .inl rfl
      · cases h
  refine ⟨⟨E.sub, ?_, fun j d h => ?_, fun j p ds h => ?_, fun j k p q ds es n h1 h2 => ?_⟩, fun b ⟨j, p, ds, h1, h2⟩ => ?_⟩
  · unfold L2.start
    rw [List.length_append, List.length_replicate, List.length_append, List.length_replicate, List.length_map, la, lv]
  · rcases get j _ h with z | ⟨d', z, h'⟩ | ⟨_, _, z, _⟩
    · cases z
    · cases z
      obtain ⟨v, k1, k2⟩ := E.val j d h'
      exact ⟨v, start_get (of_map_some k1), k2⟩
    · cases z
  · rcases get j _ h with z | ⟨d', z, h'⟩ | ⟨p', ds', z, h'⟩
    · cases z
    · cases z
    · cases z
      obtain ⟨a, xs, k1, k2, k3, k4, _⟩ := E.own j p' ds h'
      have k5 := of_map_some k1
      refine ⟨a, xs, start_get k5, k2, k3, k4, fun i e => ?_⟩
      cases e
      unfold addrOf
      rw [k5]
  · rcases get j _ h1 with z | ⟨d', z, _⟩ | ⟨p', ds', z, h1'⟩
    · cases z
    · cases z
    · rcases get k _ h2 with z | ⟨d', z, _⟩ | ⟨p'', ds'', z, h2'⟩
      · cases z
      · cases z
      · obtain ⟨a, xs, k1, _⟩ := E.own j p' ds' h1'
        obtain ⟨b, ys, k2, _⟩ := E.own k p'' ds'' h2'
        have := E.inj j k p' p'' ds' ds'' n h1' h2'
        rw [k1, k2] at this
        rw [start_get (of_map_some k1), start_get (of_map_some k2)]
        exact this
  · rcases get j _ h1 with z | ⟨d', z, _⟩ | ⟨p', ds', z, h'⟩
    · cases z
    · cases z
    · obtain ⟨a, xs, k1, _⟩ := E.own j p' ds' h'
      rw [start_get (of_map_some k1)] at h2
      cases h2
      exact ⟨j, p', ds', h', k1⟩
theorem fin_aft {K : PySem.W.Frag} {α : Nat → Addr} {F H F' H' : Hp} {N : List Str} {as os ρ : DEn} {vs : List V} {σ' : L2.St} {r : Slo} {v : V} (E : ER K α F H as (vs.map some)) (hl : vs.length ≤ N.length)
    (ho : outsA ρ 0 as = some os) (A : Aft K (addrOf vs) (OwnA (tagA as ++ List.replicate (N.length - vs.length) .un) (L2.start N vs)) F H σ' ρ r v F' H') : Aft K α (OwnA as (vs.map some)) F H (vs.map some) os r v F' H' := by
  obtain ⟨lo, go⟩ := outs_get ho
  obtain ⟨_, sub⟩ := body_er (N := N) E hl
  have own : ∀ (j : Nat) (p : Option Nat) (ds : List PD), os[j]? = some (Slo.own p ds) → ∃ (a : Addr) (xs : List V) (q : Option Nat) (es : List PD), as[j]? = some (Slo.own q es) ∧ (vs.map some)[j]? = some (some (V.ref a)) ∧ ρ[j]? = some (Slo.own (some j) ds) ∧ σ'[j]? = some (some (V.ref a)) ∧ H' a = some (.lst xs) ∧ F' a = none ∧ RpAll K F' xs ds ∧ p = none := fun j p ds h => by
    rcases go j _ h with z | ⟨q, x, y, z, g1, g2⟩
    · cases z
    · cases z
      rw [Nat.zero_add] at g2
      obtain ⟨a, xs, k1, k2, k3, k4, k5⟩ := A.er.own j _ ds g2
      obtain ⟨a0, _, m1, _⟩ := E.own j q y g1
      have e5 := k5 j rfl
      unfold addrOf at e5
      rw [of_map_some m1] at e5
      have e5 : a = a0 := e5
      subst e5
      exact ⟨a, xs, q, y, g1, m1, g2, k1, k2, k3, k4, rfl⟩
  have ownA : ∀ b, OwnA os (vs.map some) b → OwnA ρ σ' b := fun b ⟨j, p, ds, h1, h2⟩ => by
    obtain ⟨a, xs, q, es, g1, g2, g3, g4, _⟩ := own j p ds h1
    rw [g2] at h2
    cases h2
    exact ⟨j, _, ds, g3, g4⟩
  refine ⟨⟨A.er.sub, by rw [lo, E.len], fun j d h => ?_, fun j p ds h => ?_, fun j k p q ds es n h1 h2 => ?_⟩, A.rep, fun b z w => A.dist b z (ownA b w), A.st.mono sub fun b z => z.imp (ownA b) id⟩
  · rcases go j _ h with z | ⟨q, x, y, z, _⟩ <;> cases z
  · obtain ⟨a, xs, q, es, g1, g2, g3, g4, g5, g6, g7, rfl⟩ := own j p ds h
    exact ⟨a, xs, g2, g5, g6, g7, fun _ z => nomatch z⟩
  · obtain ⟨a, xs, q1, es1, g1, g2, _⟩ := own j p ds h1
    obtain ⟨b, ys, q2, es2, g3, g4, _⟩ := own k q es h2
    exact E.inj j k q1 q2 es1 es2 n g1 g3
theorem fn_body {P : Program} {w : World} {K : PySem.W.Frag} {mg : Str → Option Value} {base : Heap} {x qual : Str} {st : Stmt} {f : Addr} {fd : FuncData} {N ps : List Str} {k : Nat} {C : Cfg} {ir : Ir} (Fn : Fun K x qual st f fd) (S : FnScope N ps (defScope st))
    (hb : ∀ (cdv : Value) (A : Around) (outer : List PySem.Env) (s : Shared) (H : Hp) (E : XK), Room k (A.deeper (envOfC qual (defScope st) s.heap.objs.size f cdv)) → A.guards = some [] →
      PSs (cxOf CX0 P w K mg base N qual (defScope st) f cdv A outer s H E).nox (defBody st) (tSt K C ir)) : FnG P w K mg base (k + 1) f fd ps (spF K ps.length (runF C ps.length N.length ir)) := by
  refine fnG_of Fn S (fun vs H Q E h => ?_) fun cdv A outer s H vs Q E hr gd h => ⟨_, hb cdv A outer s H E hr gd, ?_⟩
  · obtain ⟨_, _, _, _, _, h, _⟩ := h
    exact h
  · obtain ⟨α, F, as, r, os, hl, E0, ev, kk⟩ := h
    have hN : ps.length ≤ N.length := by have := congrArg List.length S.pre; rw [List.length_take] at this; omega
    have hvN : vs.length ≤ N.length := by omega
    obtain ⟨Eb, sub⟩ := body_er (N := N) E0 hvN
    unfold runF at ev
    split at ev
    · rw [hl] at Eb
      split at ev
      · rename_i ρ e1
        split at ev
        · rename_i os' e2
          cases ev
          refine ⟨addrOf vs, F, _, _, Eb, e1, fun σ' F' H' e3 s3 => ?_⟩
          have A : Aft K (addrOf vs) (OwnA (tagA as ++ List.replicate (N.length - vs.length) .un) (L2.start N vs)) F H σ' ρ (.val .none) .non F' H' := by
            rw [hl]
            exact ⟨e3, .non, fun b z => absurd z ownV_val, s3.mono (fun _ z => z) fun b z => z.elim id fun z => absurd z ownV_val⟩
          exact kk .non F' H' (fin_aft E0 hvN e2 A)
        · cases ev
      · rename_i r' ρ e1
        split at ev
        · rename_i os' e2
          cases ev
          refine ⟨addrOf vs, F, _, _, Eb, e1, fun v σ' F' H' A => ?_⟩
          have A : Aft K (addrOf vs) (OwnA (tagA as ++ List.replicate (N.length - vs.length) .un) (L2.start N vs)) F H σ' ρ r v F' H' := by
            rw [hl]; exact A
          exact kk v F' H' (fin_aft E0 hvN e2 A)
        · cases ev
      · cases ev
    · cases ev
end Dv

set_option Elab.async false
set_option linter.all false
set_option maxRecDepth 100000
set_option maxHeartbeats 4000000
/-! from the text to the small language -/
namespace Dv
open PySem PySem.Spec PyProof.Rows L2
structure CT where
  N : List Str
  kind : List (Str × NameKind)
  own : List Nat
  fns : List (Str × Nat × List Bool)
  gls : List (Str × Nat)
  blt : List Str
def slotOf (x : Str) : List Str → Nat → Option Nat
  | [], _ => none
  | y :: r, i => if y = x then some i else slotOf x r (i + 1)
theorem slotOf_get {x : Str} : ∀ {N : List Str} {k i : Nat}, slotOf x N k = some i → ∃ j, i = k + j ∧ N[j]? = some x
  | [], _, _, h => by cases h
  | y :: r, k, i, h => by
    unfold slotOf at h
    by_cases c : y = x
    · rw [if_pos c] at h; cases h; exact ⟨0, rfl, by simp [c]⟩
    · rw [if_neg c] at h
      obtain ⟨j, e1, e2⟩ := slotOf_get h
      exact ⟨j + 1, by omega, by simpa using e2⟩
def slotAt (N : List Str) (x : Str) : Option Nat := slotOf x N 0
theorem slotAt_get {N : List Str} {x : Str} {i : Nat} (h : slotAt N x = some i) : N[i]? = some x := by
  obtain ⟨j, e1, e2⟩ := slotOf_get h
  rw [show i = j by omega]; exact e2
theorem slotOf_none {x : Str} : ∀ {N : List Str} {k : Nat}, slotOf x N k = none → x ∉ N
  | [], _, _, z => by cases z
  | y :: r, k, h, z => by
    unfold slotOf at h
    by_cases c : y = x
    · rw [if_pos c] at h; cases h
    · rw [if_neg c] at h
      rcases List.mem_cons.mp z with e | e
      · exact c e.symm
      · exact slotOf_none h e
theorem slotAt_none {N : List Str} {x : Str} (h : slotAt N x = none) : x ∉ N := slotOf_none h
def okName (x : Str) : Bool := !(x == ("__debug__" : Str)) && !(x == ("__classdict__" : Str))
/-- a name that has a slot and may be read -/
def rdName (T : CT) (x : Str) : Option Nat :=
  if okName x = true then match T.kind.lookup x with
    | some .local => slotAt T.N x
    | some .cell => slotAt T.N x
    | some .free => slotAt T.N x
    | _ => none
  else none
def isGlb (T : CT) (x : Str) : Bool := okName x && decide (T.kind.lookup x = some .globalImplicit)
def isBlt (T : CT) (x : Str) : Bool := isGlb T x && T.blt.contains x
def cName (T : CT) (x : Str) : Option Ir := match rdName T x with
  | some i => some (.var i)
  | none => if isGlb T x = true then (T.gls.lookup x).map .glb else none
def cConst : Const → Option Ir
  | .none => some .non
  | .bool b => some (.bl b)
  | .int i => some (.int i)
  | .str x => some (.str x)
  | _ => none
def cBool (op : BoolOp) (f : Expr → Option Ir) : List Expr → Option Ir
  | [] => none
  | [a] => if isIf a = false then f a else none
  | a :: r => if isIf a = false then match f a, cBool op f r with
      | some x, some y => match op with
        | .And => some (.and x y)
        | .Or => some (.or x y)
      | _, _ => none
    else none
def cList (f : Expr → Option Ir) : List Expr → Option Ir
  | [] => some .nil
  | a :: r => match f a, cList f r with
    | some x, some y => some (.cons x y)
    | _, _ => none
def cArg (T : CT) (f : Expr → Option Ir) : Bool → Expr → Option Ir
  | true, .Name x _ => (rdName T x).map .lend
  | true, _ => none
  | false, e => f e
def cArgs (T : CT) (f : Expr → Option Ir) : List Bool → List Expr → Option Ir
  | [], [] => some .nil
  | m :: ms, a :: r => match cArg T f m a, cArgs T f ms r with
    | some x, some y => some (.cons x y)
    | _, _ => none
  | _, _ => none
def cPart (f : Expr → Option Ir) : Option Expr → Option Ir
  | none => some .nil
  | some e => (f e).map fun x => .cons x .nil
def tyAt (x : Str) : Option Ty :=
  if x = tyNS .int then some .int else if x = tyNS .str then some .str else if x = tyNS .bool then some .bool else if x = tyNS .tuple then some .tuple else if x = tyNS .list then some .list else none
theorem tyAt_eq {x : Str} {t : Ty} (h : tyAt x = some t) : x = tyNS t := by
  unfold tyAt at h
  split at h
  · cases h; assumption
  split at h
  · cases h; assumption
  split at h
  · cases h; assumption
  split at h
  · cases h; assumption
  split at h
  · cases h; assumption
  cases h
def stName (T : CT) (x : Str) : Option Nat := match T.kind.lookup x with
  | some .local => slotAt T.N x
  | some .cell => slotAt T.N x
  | _ => none
def cTgs (T : CT) : List Expr → Option Ir
  | [] => some .nil
  | .Name x _ :: r => match stName T x, cTgs T r with
    | some i, some t => some (.cons (.var i) t)
    | _, _ => none
  | _ => none
def cTg (T : CT) : Expr → Option Ir
  | .Name x _ => (stName T x).map .var
  | .Tuple es _ _ => (cTgs T es).map .tup
  | _ => none
def blkT (T : CT) (sc : Scope) : CT := { T with kind := sc.names, own := [] }
def ownOf (N : List Str) (sc : Scope) : List (Str × Nat) := sc.names.filterMap fun y => match y.2 with
  | .local => (slotAt N y.1).map fun i => (y.1, i)
  | .cell => (slotAt N y.1).map fun i => (y.1, i)
  | _ => none
def bC (T : CT) (sc : Scope) : Bool := decide (sc.kind = .function) && (sc.names.all fun y => decide (sc.names.lookup y.1 = some y.2)) && (sc.names.all fun y => match y.2 with
  | .free => decide (T.kind.lookup y.1 = some .cell) || decide (T.kind.lookup y.1 = some .free)
  | _ => true)
def cIter (T : CT) (f : Expr → Option Ir) : Expr → Option Ir
  | .Call (.Name x _) [a] [] _ => if x = "range" ∧ isBlt T "range" = true then (f a).map .rng1 else none
  | .Call (.Name x _) [a, b] [] _ => if x = "range" ∧ isBlt T "range" = true then match f a, f b with
      | some x, some y => some (.rng2 x y)
      | _, _ => none
    else none
  | _ => none
def cIt (T : CT) (f : Expr → Option Ir) (e : Expr) : Option Ir := match cIter T f e with
  | some x => some x
  | none => (f e).map fun x => .cons x .nil
def cCond (f : Expr → Option Ir) : List Expr → Option Ir
  | [] => some (.bl true)
  | [c] => if isIf c = false then f c else none
  | _ => none
def cComp (T : CT) (f : Expr → Option Ir) (g : CT → Expr → Option Ir) (elt : Expr) (gs : List Comprehension) (sc : Scope) : Option Ir := match gs with
  | [⟨tg, iter, ifs, 0⟩] =>
    if bC T sc = true ∧ tame iter = true then
      match cIt T f iter, cTg (blkT T sc) tg, cCond (g (blkT T sc)) ifs, g (blkT T sc) elt with
      | some it, some t, some c, some e => if (tgts t).all (fun j => (ownOf T.N sc).any fun p => p.2 == j) = true then some (.comp t it c e ((ownOf T.N sc).map (·.2))) else none
      | _, _, _, _ => none
    else none
  | _ => none
def cCall (T : CT) (f : Expr → Option Ir) (x : Str) (es : List Expr) : Option Ir :=
  if isGlb T x = true then
    match T.fns.lookup x with
    | some (fi, ms) => (cArgs T f ms es).map (.call fi)
    | none =>
      if T.blt.contains x = true then
        if x = "isinstance" then match es with
          | [a, .Name y _] => match tyAt y, f a with
            | some t, some ia => if isBlt T (tyNS t) = true then some (.isi [t] ia) else none
            | _, _ => none
          | [a, .Tuple [.Name y _, .Name z _] _ _] => match tyAt y, tyAt z, f a with
            | some t, some t', some ia => if isBlt T (tyNS t) = true ∧ isBlt T (tyNS t') = true then some (.isi [t, t'] ia) else none
            | _, _, _ => none
          | _ => none
        else match es, prOf x with
          | _ :: _, some p => (cList f es).map (.prim p)
          | _, _ => none
      else none
  else none
def cMeth (T : CT) (f : Expr → Option Ir) (x m : Str) (es : List Expr) (sameLine : Bool) : Option Ir :=
  if sameLine = true then match rdName T x with
    | some i => match es with
      | [e] => if m = "append" then (f e).map (.app i) else if m = "extend" then (f e).map (.ext i) else none
      | [] => if m = "pop" then some (.pop i) else none
      | _ => none
    | none => none
  else none
def cE1 (T : CT) (f : Expr → Option Ir) (g : CT → Expr → Option Ir) : Expr → Option Ir
  | .Name x _ => cName T x
  | .Constant c _ _ => cConst c
  | .BinOp a op b _ => match bopOf op, f a, f b with
    | some o, some x, some y => some (.bin o x y)
    | _, _, _ => none
  | .UnaryOp .USub a _ => (f a).map .neg
  | .UnaryOp .Not a _ => if isIf a = false then (f a).map .not else none
  | .BoolOp op (a :: b :: r) _ => cBool op f (a :: b :: r)
  | .IfExp c a b _ => if isIf c = false then match f c, f a, f b with
      | some x, some y, some z => some (.ife x y z)
      | _, _, _ => none
    else none
  | .Compare a [op] [b] _ => match copOf op, f a, f b with
    | some o, some x, some y => some (.cmp o x y)
    | _, _, _ => none
  | .Compare a [op, op'] [b, c] _ => match copOf op, copOf op', f a, f b, f c with
    | some o, some p, some x, some y, some z => some (.chain o p x y z)
    | _, _, _, _, _ => none
  | .Subscript a (.Slice lo hi none _) _ => match f a, cPart f lo, cPart f hi with
    | some x, some l, some h => some (.slc x l h)
    | _, _, _ => none
  | .Subscript a (.Slice none none (some (.UnaryOp .USub (.Constant (.int 1) _ _) _)) _) _ => (f a).map .rev
  | .Subscript a b _ => match f a, f b with
    | some x, some y => some (.sub x y)
    | _, _ => none
  | .Tuple es _ _ => (cList f es).map .tup
  | .List es _ => (cList f es).map .lst
  | .Call (.Name x _) es [] _ => cCall T f x es
  | .Call (.Attribute (.Name x _) m apos) es [] pos => cMeth T f x m es (apos.endLine == pos.line)
  | .ListComp elt gs sc _ => cComp T f g elt gs sc
  | _ => none
def cE : Nat → CT → Expr → Option Ir
  | 0, _, _ => none
  | n + 1, T, e => cE1 T (cE n T) (fun T' => cE n T') e

/-- a context fits -/
structure CxOk (X : Cx) (T : CT) (C : Cfg) (k : Nat) : Prop where
  N : X.N = T.N
  nd : X.N.Nodup
  sk : X.env.scope.kind = .function
  kinds : ∀ x q, T.kind.lookup x = some q → ∃ q', X.env.scope.names.lookup x = some q' ∧ (q' = q ∨ (q = .free ∧ q' = .cell))
  calm : X.calm = true
  room : Room k X.A
  gd : X.A.guards = some []
  pass : PassesOwn (model X.prog X.w) X.A X.env X.xe
  fnc : ∀ x, T.kind.lookup x = some .cell → X.fn x = true
  fns : ∀ x f fl, (x, f, fl) ∈ T.fns → FnD X k x fl.length (C.fn f) ∧ ∀ as r os, C.fn f as = some (r, os) → as.length = fl.length
  blt : ∀ x ∈ T.blt, X.mg x = none
  gls : ∀ x g, (x, g) ∈ T.gls → ∃ v u d, X.mg x = some u ∧ RelV v u ∧ C.gl g = some d ∧ ∀ F, Rp X.K F v d
theorem mem_lookup {β : Type} : ∀ {l : List (Str × β)} {x : Str} {b : β}, l.lookup x = some b → (x, b) ∈ l
  | [], _, _, h => by cases h
  | (y, c) :: r, x, b, h => by
    rw [List.lookup_cons] at h
    cases e : x == y with
    | true =>
      rw [e] at h
      cases h
      rw [eq_of_beq e]; exact List.mem_cons_self
    | false =>
      rw [e] at h
      exact List.mem_cons_of_mem _ (mem_lookup h)
section
variable {X : Cx} {T : CT} {C : Cfg} {k : Nat}
theorem okName_1 {x : Str} (h : okName x = true) : (x == ("__debug__" : Str)) = false ∧ (x == ("__classdict__" : Str)) = false := by
  unfold okName at h
  simp only [Bool.and_eq_true, Bool.not_eq_true'] at h
  exact h
theorem CxOk.vis (O : CxOk X T C k) {x : Str} {q : NameKind} (h : T.kind.lookup x = some q) (hq : q = .local ∨ q = .cell ∨ q = .free) : Vis X.env.scope x := by
  obtain ⟨q', e1, e2⟩ := O.kinds x q h
  unfold Vis
  rcases e2 with rfl | ⟨rfl, rfl⟩
  · rcases hq with rfl | rfl | rfl
    · exact .inl e1
    · exact .inr (.inl e1)
    · exact .inr (.inr e1)
  · exact .inr (.inl e1)
theorem CxOk.glb (O : CxOk X T C k) {x : Str} (h : isGlb T x = true) : Gl X x ∧ (x == ("__debug__" : Str)) = false := by
  unfold isGlb at h
  simp only [Bool.and_eq_true, decide_eq_true_eq] at h
  obtain ⟨q', e1, e2⟩ := O.kinds x _ h.2
  rcases e2 with rfl | ⟨z, _⟩
  · exact ⟨e1, (okName_1 h.1).1⟩
  · cases z
theorem CxOk.bltn (O : CxOk X T C k) {x : Str} (h : isBlt T x = true) : Gl X x ∧ X.mg x = none := by
  unfold isBlt at h
  rw [Bool.and_eq_true] at h
  exact ⟨(O.glb h.1).1, O.blt x (by simpa using h.2)⟩
theorem CxOk.rd (O : CxOk X T C k) {x : Str} {i : Nat} {pos : Pos} (h : rdName T x = some i) : PE X (.Name x pos) (tVar i) := by
  unfold rdName at h
  split at h
  · rename_i ok
    obtain ⟨o1, o2⟩ := okName_1 ok
    split at h
    · rename_i e; exact pe_var (by rw [O.N]; exact slotAt_get h) (O.vis e (.inl rfl)) o1 o2
    · rename_i e; exact pe_var (by rw [O.N]; exact slotAt_get h) (O.vis e (.inr (.inl rfl))) o1 o2
    · rename_i e; exact pe_var (by rw [O.N]; exact slotAt_get h) (O.vis e (.inr (.inr rfl))) o1 o2
    · cases h
  · cases h
theorem CxOk.st (O : CxOk X T C k) {x : Str} {i : Nat} (h : stName T x = some i) : X.N[i]? = some x ∧ Loc X.env.scope x ∧ (X.fn x = true ∨ X.env.scope.names.lookup x = some .local) := by
  unfold stName at h
  split at h
  · rename_i e
    obtain ⟨q', e1, e2⟩ := O.kinds x _ e
    rcases e2 with rfl | ⟨z, _⟩
    · exact ⟨by rw [O.N]; exact slotAt_get h, .inl e1, .inr e1⟩
    · cases z
  · rename_i e
    obtain ⟨q', e1, e2⟩ := O.kinds x _ e
    rcases e2 with rfl | ⟨z, _⟩
    · exact ⟨by rw [O.N]; exact slotAt_get h, .inr e1, .inl (O.fnc x e)⟩
    · cases z
  · cases h
theorem CxOk.pgn (O : CxOk X T C k) {x : Str} {i : Nat} {pos : Pos} (h : stName T x = some i) : PG X (.Name x pos) (gName i) := by
  obtain ⟨h1, h2, h3⟩ := O.st h
  exact pg_name O.nd h1 h2 h3
theorem CxOk.units (O : CxOk X T C k) : X.A.units + 64 < cLine := O.room.units
theorem CxOk.names (O : CxOk X T C k) : ∀ {es : List Expr} {t : Ir}, cTgs T es = some t → Names X es t
  | [], t, h => by simp only [cTgs] at h; cases h; exact .nil
  | e :: es, t, h => by
    cases e <;> simp only [cTgs] at h <;> try cases h
    split at h
    · rename_i i t' e1 e2
      cases h
      exact .cons (O.pgn e1) (O.names e2)
    · cases h
theorem CxOk.tg (O : CxOk X T C k) {e : Expr} {t : Ir} (h : cTg T e = some t) : PG X e (tAsg X.K t) := by
  cases e <;> simp only [cTg] at h <;> try cases h
  · rename_i x p
    cases e1 : stName T x with
    | none => rw [e1] at h; cases h
    | some i => rw [e1] at h; cases h; exact dg_name (O.pgn e1)
  · rename_i es kk p
    cases e1 : cTgs T es with
    | none => rw [e1] at h; cases h
    | some t' => rw [e1] at h; cases h; exact dg_tup O.calm (O.names e1)
/-- a comprehension's block -/
theorem relabel_free {sc : Scope} {kd : ScopeKind} {look : Str → Option NameKind} : ∀ {names : List (Str × NameKind)} {x : Str} {q : NameKind}, names.lookup x = some q →
    ∃ q', (names.map fun (n, k) => if (k == NameKind.free && kd == .function && look n == some .cell) then (n, NameKind.cell) else (n, k)).lookup x = some q' ∧ (q' = q ∨ (q = .free ∧ q' = .cell))
  | [], _, _, h => by cases h
  | (n, k0) :: r, x, q, h => by
    show ∃ q', List.lookup x ((if (k0 == NameKind.free && kd == .function && look n == some .cell) = true then (n, NameKind.cell) else (n, k0)) :: (r.map _)) = some q' ∧ _
    rw [List.lookup_cons] at h
    cases hx : x == n with
    | true =>
      rw [hx] at h
      cases h
      by_cases hc : (k0 == NameKind.free && kd == .function && look n == some .cell) = true
      · rw [if_pos hc]
        simp only [Bool.and_eq_true, beq_iff_eq] at hc
        exact ⟨.cell, by rw [List.lookup_cons, hx], .inr ⟨hc.1.1, rfl⟩⟩
      · rw [if_neg hc]
        exact ⟨k0, by rw [List.lookup_cons, hx], .inl rfl⟩
    | false =>
      rw [hx] at h
      obtain ⟨q', e1, e2⟩ := relabel_free (sc := sc) (kd := kd) (look := look) h
      refine ⟨q', ?_, e2⟩
      by_cases hc : (k0 == NameKind.free && kd == .function && look n == some .cell) = true
      · rw [if_pos hc, List.lookup_cons, hx]; exact e1
      · rw [if_neg hc, List.lookup_cons, hx]; exact e1
theorem CxOk.blkO (O : CxOk X T C k) {sc : Scope} (h : bC T sc = true) (s : Shared) (H : Hp) (C' : Addr) (cl : List (Str × Addr)) (fp : List Addr) : CxOk (X.blk s H sc (compEnvC sc cl C' X.env) fp) (blkT T sc) C k where
  N := O.N
  nd := O.nd
  sk := by
    unfold bC at h
    simp only [Bool.and_eq_true, decide_eq_true_eq] at h
    exact h.1.1
  kinds := fun x q e => relabel_free (sc := sc) (kd := X.env.scope.kind) (look := X.env.kindOf) e
  calm := O.calm
  room := O.room
  gd := O.gd
  pass := PassesOwn.never
  fnc := fun x e => by
    show (sc.names.lookup x == some .cell) = true
    have e' : sc.names.lookup x = some .cell := e
    rw [e']; rfl
  fns := fun x f fl h => ⟨⟨(O.fns x f fl h).1.ex⟩, (O.fns x f fl h).2⟩
  blt := O.blt
  gls := O.gls
theorem CxOk.blkOk (O : CxOk X T C k) {sc : Scope} (h : bC T sc = true) : BlkOk X.N X.env.scope sc (ownOf T.N sc) := by
  unfold bC at h
  simp only [Bool.and_eq_true, decide_eq_true_eq, List.all_eq_true] at h
  obtain ⟨⟨h1, h2⟩, h3⟩ := h
  refine ⟨h1, h2, fun p hp => ?_, fun y hy e => ?_, fun y hy e => ?_⟩
  · unfold ownOf at hp
    obtain ⟨y, hy, e⟩ := List.mem_filterMap.mp hp
    rw [O.N]
    split at e
    · cases e1 : slotAt T.N y.1 with
      | none => rw [e1] at e; cases e
      | some i => rw [e1] at e; cases e; exact slotAt_get e1
    · cases e1 : slotAt T.N y.1 with
      | none => rw [e1] at e; cases e
      | some i => rw [e1] at e; cases e; exact slotAt_get e1
    · cases e
  · have q := h3 y hy
    rw [e] at q
    simp only [Bool.or_eq_true, decide_eq_true_eq] at q
    rcases q with q | q
    · obtain ⟨q', e1, e2⟩ := O.kinds _ _ q
      rcases e2 with rfl | ⟨z, _⟩
      · exact .inl e1
      · cases z
    · obtain ⟨q', e1, e2⟩ := O.kinds _ _ q
      rcases e2 with rfl | ⟨_, rfl⟩
      · exact .inr e1
      · exact .inl e1
  · cases e1 : slotAt T.N y.1 with
    | some i =>
      left
      unfold ownOf
      refine List.mem_map.mpr ⟨(y.1, i), List.mem_filterMap.mpr ⟨y, hy, ?_⟩, rfl⟩
      rcases e with e | e <;> (rw [e, e1]; rfl)
    | none => right; rw [O.N]; exact slotAt_none e1
end
end Dv

set_option Elab.async false
set_option linter.all false
set_option maxRecDepth 100000
set_option maxHeartbeats 8000000
/-! what the small language says of the text holds: expressions -/
namespace Dv
open PySem PySem.Spec PyProof.Rows L2
section
variable {X : Cx} {T : CT} {C : Cfg} {k : Nat} {f : Expr → Option Ir} {g : CT → Expr → Option Ir}
abbrev Good (X : Cx) (C : Cfg) (f : Expr → Option Ir) : Prop := ∀ e ir, f e = some ir → DX X C e ir
theorem cName_ok (O : CxOk X T C k) {x : Str} {pos : Pos} {ir : Ir} (h : cName T x = some ir) : DX X C (.Name x pos) ir := by
  unfold cName at h
  split at h
  · rename_i i e
    cases h
    exact dx_var (O.rd e)
  · split at h
    · rename_i gb
      cases e : T.gls.lookup x with
      | none => rw [e] at h; cases h
      | some gi =>
        rw [e] at h
        cases h
        obtain ⟨v, u, d, h1, h2, h3, h4⟩ := O.gls x gi (mem_lookup e)
        obtain ⟨g1, g2⟩ := O.glb gb
        exact dx_const (pe_glob g1 h1 h2 g2) h4 (fun ρ => by simp only [evX, h3]) rfl rfl rfl
    · cases h
theorem cConst_ok {c : Const} {kk : Nat} {pos : Pos} {ir : Ir} (h : cConst c = some ir) : DX X C (.Constant c kk pos) ir := by
  cases c <;> simp only [cConst] at h <;> cases h
  · exact dx_non
  · exact dx_bl
  · exact dx_int
  · exact dx_str
theorem cBool_db (G : Good X C f) {op : BoolOp} {pos : Pos} : ∀ {es : List Expr} {ir : Ir}, cBool op f es = some ir → DB X C op es pos ir
  | [], ir, h => by simp only [cBool] at h; cases h
  | [a], ir, h => by
    simp only [cBool] at h
    split at h
    · rename_i hi
      cases op
      · exact db_and1 (G _ _ h) hi
      · exact db_or1 (G _ _ h) hi
    · cases h
  | a :: b :: r, ir, h => by
    simp only [cBool] at h
    split at h
    · rename_i hi
      split at h
      · rename_i x y e1 e2
        have ih := cBool_db G (op := op) (pos := pos) (es := b :: r) e2
        cases op
        · cases h; exact db_and (G _ _ e1) hi ih
        · cases h; exact db_or (G _ _ e1) hi ih
      · cases h
    · cases h
theorem cBool_ok (G : Good X C f) {op : BoolOp} {pos : Pos} {a b : Expr} {r : List Expr} {ir : Ir} (h : cBool op f (a :: b :: r) = some ir) : DX X C (.BoolOp op (a :: b :: r) pos) ir := by
  have D := cBool_db G (pos := pos) h
  simp only [cBool] at h
  split at h
  · split at h
    · cases op
      · cases h; exact dx_and D
      · cases h; exact dx_or D
    · cases h
  · cases h
theorem cList_ok (G : Good X C f) (m : Bool) : ∀ {es : List Expr} {ir : Ir}, cList f es = some ir → DL X C m es ir
  | [], ir, h => by simp only [cList] at h; cases h; exact dl_nil
  | a :: r, ir, h => by
    simp only [cList] at h
    split at h
    · rename_i x y e1 e2
      cases h
      exact dl_cons ((G _ _ e1).o m) (G _ _ e1).tm (cList_ok G m e2)
    · cases h
theorem cArgs_ok (O : CxOk X T C k) (G : Good X C f) : ∀ {ms : List Bool} {es : List Expr} {ir : Ir}, cArgs T f ms es = some ir → DL X C false es ir
  | [], [], ir, h => by simp only [cArgs] at h; cases h; exact dl_nil
  | [], _ :: _, ir, h => by simp only [cArgs] at h; cases h
  | _ :: _, [], ir, h => by simp only [cArgs] at h; cases h
  | m :: ms, a :: r, ir, h => by
    simp only [cArgs] at h
    split at h
    · rename_i x y e1 e2
      cases h
      have ih := cArgs_ok O G e2
      cases m with
      | false =>
        have e1' : f a = some x := by cases a <;> exact e1
        exact dl_cons ((G _ _ e1').o false) (G _ _ e1').tm ih
      | true =>
        cases a <;> simp only [cArg] at e1 <;> try cases e1
        rename_i nm p
        cases e3 : rdName T nm with
        | none => rw [e3] at e1; cases e1
        | some i =>
          rw [e3] at e1
          cases e1
          exact dl_cons (pe_lend false (O.rd e3)) rfl ih
    · cases h
theorem cPart_ok (G : Good X C f) {o : Option Expr} {ir : Ir} (h : cPart f o = some ir) : PO X o (tP X.K C ir) := by
  cases o with
  | none => simp only [cPart] at h; cases h; exact dp_none
  | some e =>
    simp only [cPart] at h
    cases e1 : f e with
    | none => rw [e1] at h; cases h
    | some x => rw [e1] at h; cases h; exact dp_some (G _ _ e1)
theorem mapSome {α β : Type} {o : Option α} {w : α → β} {b : β} (h : o.map w = some b) : ∃ a, o = some a ∧ w a = b := by
  cases o with
  | none => cases h
  | some a => exact ⟨a, rfl, Option.some.inj h⟩
theorem notLend_of (G : Good X C f) {e : Expr} {ir : Ir} (h : f e = some ir) (ne : ∀ i, ir ≠ .lend i) : notLend ir = true := by
  cases ir <;> first | rfl | exact absurd rfl (ne _)
theorem cIt_ok (O : CxOk X T C k) (G : Good X C f) (NL : ∀ e ir, f e = some ir → notLend ir = true) {tg e : Expr} {ir : Ir} {m : Bool} (h : cIt T f e = some ir) : PI X tg e (tIt X.K C m ir) := by
  unfold cIt at h
  split at h
  · rename_i x e1
    cases h
    unfold cIter at e1
    split at e1
    · split at e1
      · rename_i hc
        obtain ⟨rfl, hb⟩ := hc
        obtain ⟨a, e2, e3⟩ := mapSome e1
        subst e3
        obtain ⟨g1, g2⟩ := O.bltn hb
        exact di_rng1 g1 g2 (G _ _ e2)
      · cases e1
    · split at e1
      · rename_i hc
        obtain ⟨rfl, hb⟩ := hc
        split at e1
        · rename_i x' y' e2 e3
          cases e1
          obtain ⟨g1, g2⟩ := O.bltn hb
          exact di_rng2 g1 g2 (G _ _ e2) (G _ _ e3)
        · cases e1
      · cases e1
    · cases e1
  · obtain ⟨a, e2, e3⟩ := mapSome h
    subst e3
    exact di_seq (NL _ _ e2) ((G _ _ e2).o m)
theorem cCond_ok (G : Good X C f) {ifs : List Expr} {ir : Ir} (h : cCond f ifs = some ir) : PTs X ifs (tT X.K C ir) := by
  unfold cCond at h
  split at h
  · cases h
    refine ⟨fun pins s σ H Q I q => pts_nil.run pins s σ H Q I ?_⟩
    obtain ⟨α, F, ρ, b, ρ', E, ev, kk⟩ := q
    simp only [evX] at ev
    cases ev
    exact kk F H E .refl
  · split at h
    · rename_i hi
      exact pts_one ((G _ _ h).t hi)
    · cases h
  · cases h
/-- what a comprehension's parts say -/
structure CompOk (X : Cx) (T : CT) (C : Cfg) (elt : Expr) (gs : List Comprehension) (sc : Scope) (ir : Ir) : Prop where
  ex : ∃ tg iter ifs it t c e, gs = [⟨tg, iter, ifs, 0⟩] ∧ ir = .comp t it c e ((ownOf T.N sc).map (·.2)) ∧ tame iter = true ∧ PI X tg iter (tIt X.K C true it) ∧ BlkOk X.N X.env.scope sc (ownOf T.N sc) ∧
    (∀ (s : Shared) (H : Hp) (C' : Addr) (cl : List (Str × Addr)) (fp : List Addr), PG (X.blk s H sc (compEnvC sc cl C' X.env) fp) tg (tAsg X.K t)) ∧
    (∀ (s : Shared) (H : Hp) (C' : Addr) (cl : List (Str × Addr)) (fp : List Addr), PTs (X.blk s H sc (compEnvC sc cl C' X.env) fp) ifs (tT X.K C c)) ∧
    (∀ (s : Shared) (H : Hp) (C' : Addr) (cl : List (Str × Addr)) (fp : List Addr), PE (X.blk s H sc (compEnvC sc cl C' X.env) fp) elt (tX X.K C e)) ∧
    ∀ j, j ∈ tgts t → j ∈ (ownOf T.N sc).map (·.2)
theorem cComp_ok (O : CxOk X T C k) (G : Good X C f) (NL : ∀ e ir, f e = some ir → notLend ir = true) (GB : ∀ (X' : Cx) (T' : CT), CxOk X' T' C k → Good X' C (g T')) {elt : Expr} {gs : List Comprehension} {sc : Scope} {ir : Ir} (h : cComp T f g elt gs sc = some ir) :
    CompOk X T C elt gs sc ir := by
  unfold cComp at h
  split at h
  · rename_i tg iter ifs
    split at h
    · rename_i hc
      obtain ⟨hb, tm⟩ := hc
      split at h
      · rename_i it t c e e1 e2 e3 e4
        split at h
        · rename_i hv
          cases h
          have OB := fun s H C' cl fp => O.blkO hb s H C' cl fp
          refine ⟨tg, iter, ifs, it, t, c, e, rfl, rfl, tm, cIt_ok O G NL e1, O.blkOk hb, fun s H C' cl fp => (OB s H C' cl fp).tg e2, fun s H C' cl fp => cCond_ok (GB _ _ (OB s H C' cl fp)) e3, fun s H C' cl fp => (GB _ _ (OB s H C' cl fp) _ _ e4).x, fun j hj => ?_⟩
          have q := List.all_eq_true.mp hv j hj
          obtain ⟨p, hp, e5⟩ := List.any_eq_true.mp q
          exact List.mem_map.mpr ⟨p, hp, by simpa using e5⟩
        · cases h
      · cases h
    · cases h
  · cases h
theorem CompOk.dx (O : CxOk X T C k) {elt : Expr} {gs : List Comprehension} {sc : Scope} {ir : Ir} {pos : Pos} (h : CompOk X T C elt gs sc ir) : DX X C (.ListComp elt gs sc pos) ir := by
  obtain ⟨tg, iter, ifs, it, t, c, e, rfl, rfl, tm, hi, ok, hg, ht, he, hv⟩ := h.ex
  exact .mk' (pe_mono (pe_lc O.calm O.nd hi ok hg ht he (fun x => tame_fold tm X.env x)) fun σ H Q q => dx_comp O.calm O.nd tm hi ok hg ht he hv σ H Q q) rfl rfl rfl
theorem cCall_ok (O : CxOk X T C k) (G : Good X C f) {x : Str} {es : List Expr} {ir : Ir} {np pos : Pos} (h : cCall T f x es = some ir) : DX X C (.Call (.Name x np) es [] pos) ir := by
  unfold cCall at h
  split at h
  · rename_i gb
    obtain ⟨g1, g2⟩ := O.glb gb
    split at h
    · rename_i fi ms e1
      obtain ⟨a, e2, e3⟩ := mapSome h
      subst e3
      obtain ⟨Fd, hn⟩ := O.fns x fi ms (mem_lookup e1)
      have L := cArgs_ok O G e2
      cases es with
      | nil =>
        have ea : a = .nil := by
          cases ms with
          | nil => simp only [cArgs] at e2; cases e2; rfl
          | cons _ _ => simp only [cArgs] at e2; cases e2
        subst ea
        exact dx_call0 Fd hn O.room O.gd g1 g2
      | cons e es => exact dx_call Fd hn O.room O.gd g1 g2 L
    · split at h
      · rename_i hb
        have hm : X.mg x = none := O.blt x (by simpa using hb)
        split at h
        · rename_i hx
          subst hx
          split at h
          · rename_i a y p
            split at h
            · rename_i t ia e1 e2
              split at h
              · rename_i hbt
                cases h
                have := tyAt_eq e1
                subst this
                obtain ⟨b1, b2⟩ := O.bltn hbt
                exact dx_isi1 g1 hm b1 b2 (G _ _ e2)
              · cases h
            · cases h
          · rename_i a y p z p' kk tp
            split at h
            · rename_i t t' ia e1 e2 e3
              split at h
              · rename_i hbt
                cases h
                have := tyAt_eq e1
                subst this
                have := tyAt_eq e2
                subst this
                obtain ⟨b1, b2⟩ := O.bltn hbt.1
                obtain ⟨b3, b4⟩ := O.bltn hbt.2
                exact dx_isi2 g1 hm b1 b2 b3 b4 (G _ _ e3)
              · cases h
            · cases h
          · cases h
        · split at h
          · rename_i e es p e1
            obtain ⟨a, e2, e3⟩ := mapSome h
            subst e3
            exact dx_prim e1 O.calm (by have := O.room.un; omega) O.gd g1 hm (cList_ok G true e2)
          · cases h
      · cases h
  · cases h
theorem cMeth_ok (O : CxOk X T C k) (G : Good X C f) {x m : Str} {es : List Expr} {ir : Ir} {np apos pos : Pos} (h : cMeth T f x m es (apos.endLine == pos.line) = some ir) : DX X C (.Call (.Attribute (.Name x np) m apos) es [] pos) ir := by
  unfold cMeth at h
  split at h
  · rename_i hl
    split at h
    · rename_i i e0
      have hv := fun p => O.rd (pos := p) e0
      split at h
      · rename_i e
        split at h
        · rename_i hm
          subst hm
          obtain ⟨a, e2, e3⟩ := mapSome h
          subst e3
          exact dx_app (hv np) (G _ _ e2) hl
        · split at h
          · rename_i hm
            subst hm
            obtain ⟨a, e2, e3⟩ := mapSome h
            subst e3
            exact dx_ext (hv np) (G _ _ e2) hl
          · cases h
      · split at h
        · rename_i hm
          subst hm
          cases h
          exact dx_pop (hv np) hl
        · cases h
      · cases h
    · cases h
  · cases h
theorem cE1_ok (O : CxOk X T C k) (G : Good X C f) (NL : ∀ e ir, f e = some ir → notLend ir = true) (GB : ∀ (X' : Cx) (T' : CT), CxOk X' T' C k → Good X' C (g T')) : Good X C (cE1 T f g) := by
  intro e ir h
  unfold cE1 at h
  split at h
  · exact cName_ok O h
  · exact cConst_ok h
  · split at h
    · rename_i o x y e1 e2 e3
      cases h
      exact dx_bin e1 (G _ _ e2) (G _ _ e3)
    · cases h
  · obtain ⟨a, e2, e3⟩ := mapSome h
    subst e3
    exact dx_neg (G _ _ e2)
  · split at h
    · rename_i hi
      obtain ⟨a, e2, e3⟩ := mapSome h
      subst e3
      exact dx_not (G _ _ e2) hi
    · cases h
  · exact cBool_ok G h
  · split at h
    · rename_i hi
      split at h
      · rename_i x y z e1 e2 e3
        cases h
        exact dx_ife (G _ _ e1) hi (G _ _ e2) (G _ _ e3)
      · cases h
    · cases h
  · split at h
    · rename_i o x y e1 e2 e3
      cases h
      exact dx_cmp e1 O.units (G _ _ e2) (G _ _ e3)
    · cases h
  · split at h
    · rename_i o p x y z e1 e2 e3 e4 e5
      cases h
      exact dx_chain e1 e2 O.units (G _ _ e3) (G _ _ e4) (G _ _ e5)
    · cases h
  · split at h
    · rename_i x l hh e1 e2 e3
      cases h
      exact dx_slc (G _ _ e1) (cPart_ok G e2) (cPart_ok G e3)
    · cases h
  · obtain ⟨a, e2, e3⟩ := mapSome h
    subst e3
    exact dx_rev (G _ _ e2)
  · split at h
    · rename_i x y e1 e2
      cases h
      exact dx_sub (G _ _ e1) (G _ _ e2)
    · cases h
  · obtain ⟨a, e2, e3⟩ := mapSome h
    subst e3
    exact dx_tup (cList_ok G false e2)
  · obtain ⟨a, e2, e3⟩ := mapSome h
    subst e3
    exact dx_lst (cList_ok G false e2)
  · exact cCall_ok O G h
  · exact cMeth_ok O G h
  · exact (cComp_ok O G NL GB h).dx O
  · cases h
end
end Dv

set_option Elab.async false
set_option linter.all false
set_option maxRecDepth 100000
set_option maxHeartbeats 8000000
/-! what the small language says of the text holds: statements -/
namespace Dv
open PySem PySem.Spec PyProof.Rows L2
theorem lend_map {α : Type} {o : Option α} {w : α → Ir} {ir : Ir} (h : o.map w = some ir) (n : ∀ a, notLend (w a) = true) : notLend ir = true := by
  obtain ⟨a, _, rfl⟩ := mapSome h
  exact n a
theorem cE1_lend {T : CT} {f : Expr → Option Ir} {g : CT → Expr → Option Ir} {e : Expr} {ir : Ir} (h : cE1 T f g e = some ir) : notLend ir = true := by
  unfold cE1 at h
  split at h
  · unfold cName at h
    split at h
    · cases h; rfl
    · split at h
      · exact lend_map h fun _ => rfl
      · cases h
  · rename_i c _ _
    cases c <;> simp only [cConst] at h <;> cases h <;> rfl
  · split at h <;> cases h; rfl
  · exact lend_map h fun _ => rfl
  · split at h
    · exact lend_map h fun _ => rfl
    · cases h
  · rename_i op a b r _
    simp only [cBool] at h
    split at h
    · split at h
      · cases op <;> cases h <;> rfl
      · cases h
    · cases h
  · split at h
    · split at h <;> cases h; rfl
    · cases h
  · split at h <;> cases h; rfl
  · split at h <;> cases h; rfl
  · split at h <;> cases h; rfl
  · exact lend_map h fun _ => rfl
  · split at h <;> cases h; rfl
  · exact lend_map h fun _ => rfl
  · exact lend_map h fun _ => rfl
  · unfold cCall at h
    split at h
    · split at h
      · exact lend_map h fun _ => rfl
      · split at h
        · split at h
          · split at h
            · split at h
              · split at h <;> cases h; rfl
              · cases h
            · split at h
              · split at h <;> cases h; rfl
              · cases h
            · cases h
          · split at h
            · exact lend_map h fun _ => rfl
            · cases h
        · cases h
    · cases h
  · unfold cMeth at h
    split at h
    · split at h
      · split at h
        · split at h
          · exact lend_map h fun _ => rfl
          · split at h
            · exact lend_map h fun _ => rfl
            · cases h
        · split at h <;> cases h; rfl
        · cases h
      · cases h
    · cases h
  · unfold cComp at h
    split at h
    · split at h
      · split at h
        · split at h <;> cases h; rfl
        · cases h
      · cases h
    · cases h
  · cases h
theorem cE_lend {n : Nat} {T : CT} {e : Expr} {ir : Ir} (h : cE n T e = some ir) : notLend ir = true := by
  cases n with
  | zero => simp only [cE] at h; cases h
  | succ n => exact cE1_lend h
theorem cE_ok {C : Cfg} {k : Nat} : ∀ (n : Nat) {X : Cx} {T : CT}, CxOk X T C k → Good X C (cE n T)
  | 0, _, _, _ => fun e ir h => by simp only [cE] at h; cases h
  | n + 1, X, T, O => fun e ir h => cE1_ok O (cE_ok n O) (fun e ir h => cE_lend h) (fun X' T' O' => cE_ok n O') e ir h

def isComp : Expr → Bool
  | .ListComp _ _ _ _ => true
  | .SetComp _ _ _ _ => true
  | .DictComp _ _ _ _ _ => true
  | _ => false
def isTupE : Expr → Bool
  | .Tuple _ _ _ => true
  | _ => false
theorem noswap {e : Expr} (h : isComp e = false) (t : Option Expr) (l : Nat) (env : PySem.Env) : swapsWith e t l env = pure false := by
  cases e <;> first | rfl | cases h
theorem nosole {e : Expr} (h : isComp e = false) (t : Expr) (l : Nat) (env : PySem.Env) : swapsWithSole [t] e l env = pure false := noswap h (some t) l env
theorem nostores {e : Expr} (h : isTupE e = false) (ts : List Expr) (k : Nat) (tp : Pos) (env : PySem.Env) : swappedStores [.Tuple ts k tp] e env = pure none := by
  cases e <;> first | rfl | cases h
theorem sub_assign {o b : Expr} (h : tame b = true) (p : Pos) (env : PySem.Env) (v : Value) : assign (.Subscript o b p) env v = (do
      let ov ← holding [v] (eval o env)
      let iv ← holding [v, ov] (eval b env)
      standAt p
      holding [v, ov, iv] (setItem ov iv v)
      release [v, ov, iv] []) := by
  cases b <;> first | rfl | cases h
/-- how a name = [..] is stored -/
def setKind (T : CT) (x : Str) (p : Pos) : Expr → Option Bool
  | .ListComp _ _ sc cp => match T.kind.lookup x with
    | some .local => if (p.line == cp.line) = true ∧ (sc.names.any fun (n, k) => n == x && (k == .local || k == .cell)) = false then some true else none
    | some .cell => some false
    | _ => none
  | e => if isComp e = false then some false else none
def cS1 (T : CT) (f : Expr → Option Ir) (ss : List Stmt → Option Ir) : Stmt → Option Ir
  | .Assign [.Name x p] e _ => match setKind T x p e, stName T x, f e with
    | some _, some i, some ir => some (.set i (T.own.contains i) ir)
    | _, _, _ => none
  | .Assign [.Tuple ts k tp] e _ => if isComp e = false ∧ isTupE e = false then match cTg T (.Tuple ts k tp), f e with
      | some t, some ir => some (.unp t ir)
      | _, _ => none
    else none
  | .Assign [.Subscript (.Name x _) b _] e _ => if isComp e = false then match rdName T x, f b, f e with
      | some i, some ib, some ir => some (.sti i ib ir)
      | _, _, _ => none
    else none
  | .Expr e _ => if isComp e = false then (f e).map .ex else none
  | .If c a b _ => if isIf c = false then match f c, ss a, ss b with
      | some x, some y, some z => some (.ifs x y z)
      | _, _, _ => none
    else none
  | .While c b [] _ => if isIf c = false then match f c, ss b with
      | some x, some y => some (.whl x y)
      | _, _ => none
    else none
  | .For tg it b [] _ => if tame it = true then match cTg T tg, cIt T f it, ss b with
      | some t, some i, some y => some (.fors t i y)
      | _, _, _ => none
    else none
  | .Return none _ => some (.ret .non)
  | .Return (some (.Name x _)) _ => match rdName T x with
    | some i => some (.ret (.var i))
    | none => none
  | .Return (some e) _ => match f e with
    | some (.var _) => none
    | some ir => some (.ret ir)
    | none => none
  | .Break _ => some .brk
  | .Continue _ => some .cnt
  | .Pass _ => some .pas
  | _ => none
def cSl (s : Stmt → Option Ir) : List Stmt → Option Ir
  | [] => some .nil
  | a :: r => match s a, cSl s r with
    | some x, some y => some (.cons x y)
    | _, _ => none
def cS : Nat → CT → List Stmt → Option Ir
  | 0, _, _ => none
  | n + 1, T, l => cSl (cS1 T (cE 60 T) (cS n T)) l
section
variable {X : Cx} {T : CT} {C : Cfg} {k : Nat}
theorem swap_cell {elt : Expr} {gs : List Comprehension} {sc : Scope} {cp p : Pos} {x : Str} {l : Nat} {env : PySem.Env} (hk : env.scope.kind = .function) (h : env.scope.names.lookup x = some .cell) : swapsWith (.ListComp elt gs sc cp) (some (.Name x p)) l env = pure false := by
  have kx : env.kindOf x = some .cell := h
  have hb : env.blockKind = .function := by unfold Env.blockKind; rw [hk]; rfl
  unfold swapsWith
  simp only [hb, kx]
  rfl
theorem cSet_ok (O : CxOk X T C k) {n : Nat} {x : Str} {p pos : Pos} {e : Expr} {b : Bool} {i : Nat} {keep : Bool} {ir : Ir} (h1 : setKind T x p e = some b) (h2 : stName T x = some i) (h3 : cE (n + 1) T e = some ir) : PS X (.Assign [.Name x p] e pos) (tSt X.K C (.set i keep ir)) := by
  obtain ⟨s1, s2, s3⟩ := O.st h2
  have D := cE_ok (n + 1) O e ir h3
  unfold setKind at h1
  split at h1
  · rename_i elt gs sc cp
    split at h1
    · rename_i ek
      split at h1
      · rename_i hc
        obtain ⟨hl, ha⟩ := hc
        have h3' : cComp T (cE n T) (fun T' => cE n T') elt gs sc = some ir := h3
        obtain ⟨tg, iter, ifs, it, t, c, e', rfl, rfl, tm, hi, ok, hg, ht, he, hv⟩ := (cComp_ok O (cE_ok n O) (fun e ir h => cE_lend h) (fun X' T' O' => cE_ok n O') h3').ex
        obtain ⟨q', e1, e2⟩ := O.kinds x _ ek
        have e1 : X.env.scope.names.lookup x = some .local := by
          rcases e2 with rfl | ⟨z, _⟩
          · exact e1
          · cases z
        exact ps_mono (ps_setLc O.calm O.nd s1 e1 (sw_true O.sk e1 hl ha) hi ok hg ht he (fun y => tame_fold tm X.env y)) fun E σ H q => dx_comp O.calm O.nd tm hi ok hg ht he hv σ H _ (set_weak q)
      · cases h1
    · rename_i ek
      obtain ⟨q', e1, e2⟩ := O.kinds x _ ek
      have e1 : X.env.scope.names.lookup x = some .cell := by
        rcases e2 with rfl | ⟨z, _⟩
        · exact e1
        · cases z
      exact ds_set O.nd s1 s2 D.x (swap_cell O.sk e1) s3
    · cases h1
  · split at h1
    · rename_i hc
      exact ds_set O.nd s1 s2 D.x (noswap hc _ _ _) s3
    · cases h1
theorem cSl_ok {s : Stmt → Option Ir} (G : ∀ st ir, s st = some ir → PS X st (tSt X.K C ir)) : ∀ {l : List Stmt} {ir : Ir}, cSl s l = some ir → PSs X l (tSt X.K C ir)
  | [], ir, h => by simp only [cSl] at h; cases h; exact ds_nil
  | a :: r, ir, h => by
    simp only [cSl] at h
    split at h
    · rename_i x y e1 e2
      cases h
      exact ds_cons (G _ _ e1) (cSl_ok G e2)
    · cases h
theorem cS1_ok (O : CxOk X T C k) {n : Nat} {ss : List Stmt → Option Ir} (GS : ∀ l ir, ss l = some ir → PSs X l (tSt X.K C ir)) : ∀ st ir, cS1 T (cE (n + 1) T) ss st = some ir → PS X st (tSt X.K C ir) := by
  intro st ir h
  have G := cE_ok (n + 1) O
  unfold cS1 at h
  split at h
  · split at h
    · rename_i b i ie e1 e2 e3
      cases h
      exact cSet_ok O e1 e2 e3
    · cases h
  · split at h
    · rename_i hc
      split at h
      · rename_i t ie e1 e2
        cases h
        exact ds_unp (G _ _ e2).x (O.tg e1) (nosole hc.1 _ _ _) (nostores hc.2 _ _ _ _) rfl
      · cases h
    · cases h
  · split at h
    · rename_i hc
      split at h
      · rename_i i ib ie e1 e2 e3
        cases h
        exact ds_sti (O.rd e1) (G _ _ e2) (G _ _ e3).x (nosole hc _ _ _) rfl fun v => sub_assign (G _ _ e2).tm _ _ v
      · cases h
    · cases h
  · split at h
    · rename_i hc
      obtain ⟨a, e2, e3⟩ := mapSome h
      subst e3
      exact ds_ex (G _ _ e2).x (noswap hc _ _ _)
    · cases h
  · split at h
    · rename_i hi
      split at h
      · rename_i x y z e1 e2 e3
        cases h
        exact ds_ifs ((G _ _ e1).t hi) (GS _ _ e2) (GS _ _ e3)
      · cases h
    · cases h
  · split at h
    · rename_i hi
      split at h
      · rename_i x y e1 e2
        cases h
        exact ds_whl O.pass ((G _ _ e1).t hi) (GS _ _ e2)
      · cases h
    · cases h
  · split at h
    · rename_i tm
      split at h
      · rename_i t i y e1 e2 e3
        cases h
        exact ds_fors O.pass O.calm tm (cIt_ok O G (fun e ir h => cE_lend h) e2) (O.tg e1) (GS _ _ e3)
      · cases h
    · cases h
  · cases h; exact ds_retN
  · split at h
    · rename_i i e1
      cases h
      exact ds_retV (O.rd e1)
    · cases h
  · split at h
    · cases h
    · rename_i ie nv e1
      cases h
      exact ds_ret (fun i e => nv i e) (G _ _ e1).x
    · cases h
  · cases h; exact ds_brk
  · cases h; exact ds_cnt
  · cases h; exact ds_pas
  · cases h
theorem cS_ok : ∀ (n : Nat) (O : CxOk X T C k), ∀ l ir, cS n T l = some ir → PSs X l (tSt X.K C ir)
  | 0, _, l, ir, h => by simp only [cS] at h; cases h
  | n + 1, O, l, ir, h => cSl_ok (cS1_ok O (cS_ok n O)) h
end
end Dv

set_option Elab.async false
set_option linter.all false
set_option maxRecDepth 100000
set_option maxHeartbeats 8000000
/-! a whole text of defs -/
namespace Dv
open PySem PySem.Spec PyProof.Rows L2
/-- a def of the text: its statement, its slots (parameters first), the slots that hold owned lists, which parameters are lent lists, its body -/
structure DefR where
  name : Str
  qual : Str
  st : Stmt
  N : List Str
  ps : List Str
  own : List Nat
  ms : List Bool
  ir : Ir
def fnsOf : Nat → List DefR → List (Str × Nat × List Bool)
  | _, [] => []
  | i, r :: rs => (r.name, i, r.ms) :: fnsOf (i + 1) rs
theorem fnsOf_mem : ∀ {rs : List DefR} {i : Nat} {x : Str} {f : Nat} {fl : List Bool}, (x, f, fl) ∈ fnsOf i rs → ∃ j r, f = i + j ∧ rs[j]? = some r ∧ x = r.name ∧ fl = r.ms
  | [], _, _, _, _, h => by simp [fnsOf] at h
  | r :: rs, i, x, f, fl, h => by
    rcases List.mem_cons.mp h with e | h
    · cases e; exact ⟨0, r, rfl, rfl, rfl, rfl⟩
    · obtain ⟨j, r', e1, e2, e3, e4⟩ := fnsOf_mem h
      exact ⟨j + 1, r', by omega, by simpa using e2, e3, e4⟩
/-- what each def gives, to a depth -/
def fnK (rs : List DefR) (gl : Nat → Option PD) : Nat → Nat → DEn → Option (Slo × DEn)
  | 0, _, _ => none
  | k + 1, f, as => match rs[f]? with
    | some r => runF ⟨fnK rs gl k, gl⟩ r.ms.length r.N.length r.ir as
    | none => none
theorem fnK_len {rs : List DefR} {gl : Nat → Option PD} {k f : Nat} {r : DefR} (h : rs[f]? = some r) {as os : DEn} {x : Slo} (e : fnK rs gl k f as = some (x, os)) : as.length = r.ms.length := by
  cases k with
  | zero => simp only [fnK] at e; cases e
  | succ k =>
    simp only [fnK, h] at e
    unfold runF at e
    split at e
    · assumption
    · cases e
def ctOf (rs : List DefR) (gls : List (Str × Nat)) (blt : List Str) (r : DefR) : CT := ⟨r.N, (defScope r.st).names, r.own, fnsOf 0 rs, gls, blt⟩
structure DefOk (rs : List DefR) (gls : List (Str × Nat)) (blt : List Str) (r : DefR) : Prop where
  sc : FnScope r.N r.ps (defScope r.st)
  len : r.ps.length = r.ms.length
  cm : cS 40 (ctOf rs gls blt r) (defBody r.st) = some r.ir
structure DefAt (K : PySem.W.Frag) (mg : Str → Option Value) (r : DefR) (fa : Addr) (fd : FuncData) : Prop where
  fn : Fun K r.name r.qual r.st fa fd
  at_ : mg r.name = some (.ref fa)
  kp : PySem.W.keepIn K (.ref fa) = true
  bd : Binds K fd r.ps []
section
variable {P : Program} {w : World} {K : PySem.W.Frag} {mg : Str → Option Value} {base : Heap} {rs : List DefR} {gls : List (Str × Nat)} {blt : List Str} {gl : Nat → Option PD}
theorem defs_ok (hs : ∀ (f : Nat) (r : DefR), rs[f]? = some r → DefOk rs gls blt r ∧ ∃ fa fd, DefAt K mg r fa fd) (hb : ∀ x ∈ blt, mg x = none) (hg : ∀ x g, (x, g) ∈ gls → ∃ v u d, mg x = some u ∧ RelV v u ∧ gl g = some d ∧ ∀ F, Rp K F v d) :
    ∀ (k : Nat) (f : Nat) (r : DefR), rs[f]? = some r → ∀ fa fd, DefAt K mg r fa fd → FnG P w K mg base k fa fd r.ps (spF K r.ms.length (fnK rs gl k f)) := by
  intro k
  induction k with
  | zero =>
    intro f r hr fa fd D
    have no : ∀ {as x}, fnK rs gl 0 f as = some x → False := fun {as x} z => by simp only [fnK] at z; cases z
    exact ⟨fun vs H Q E ⟨_, _, _, _, _, _, _, z, _⟩ => (no z).elim, fun _ _ _ _ _ _ _ _ _ _ _ _ _ _ ⟨_, _, _, _, _, _, _, z, _⟩ => (no z).elim⟩
  | succ k ih =>
    intro f r hr fa fd D
    obtain ⟨S, _⟩ := hs f r hr
    have e : fnK rs gl (k + 1) f = runF ⟨fnK rs gl k, gl⟩ r.ps.length r.N.length r.ir := by
      funext as
      simp only [fnK, hr]
      rw [S.len]
    rw [e, ← S.len]
    refine fn_body D.fn S.sc fun cdv A outer s H E hroom gd => cS_ok (k := k) 40 ?_ _ _ S.cm
    refine ⟨rfl, S.sc.nd, S.sc.kind, fun x q e => ⟨q, e, .inl rfl⟩, rfl, hroom, gd, PassesOwn.never, fun _ _ => rfl, fun x f' fl hm => ?_, hb, hg⟩
    obtain ⟨j, r', e1, e2, e3, e4⟩ := fnsOf_mem hm
    rw [Nat.zero_add] at e1
    subst e1 e3 e4
    obtain ⟨S', fa', fd', D'⟩ := hs f' r' e2
    refine ⟨⟨fa', fd', r'.ps, ih f' r' e2 fa' fd' D', D'.at_, D'.kp, D'.bd⟩, fun as x os z => fnK_len e2 z⟩
end
/-- the law wins where its value is True -/
theorem wins_of {K : PySem.W.Frag} {φ : DEn → Option (Slo × DEn)} (h : ∀ ns : List Int, ns.length ≤ 63 → ∃ os, φ [.val (.list (ns.map PyData.int))] = some (.val (.bool true), os)) : Wins K (spF K 1 φ) := by
  intro H a ns hl hL
  obtain ⟨os, e⟩ := h ns hl
  refine ⟨fun _ => 0, H, [.val (.list (ns.map PyData.int))], _, os, rfl, ⟨Same.refl _, rfl, fun i d z => ?_, fun i p ds z => ?_, fun i j p q ds es n z => ?_⟩, e, fun v F' H' A => bool_rep A.rep⟩
  · match i, z with
    | 0, z =>
      have z : PyData.list (ns.map PyData.int) = d := by simpa using z
      subst z
      exact ⟨.ref a, rfl, .lst hL (rpAll_ints ns)⟩
    | i + 1, z => simp at z
  · match i, z with
    | 0, z => simp at z
    | i + 1, z => simp at z
  · match i, z with
    | 0, z => simp at z
    | i + 1, z => simp at z
end Dv

set_option Elab.async false
set_option linter.all false
set_option maxRecDepth 100000
set_option maxHeartbeats 4000000
/-! the small language, a step at a time -/
namespace Dv
open PySem PySem.Spec PyProof.Rows L2
def oX (C : Cfg) (m : Bool) (e : Ir) (ρ : DEn) : Option (Opd × DEn) := opdOf m e (evX C e) ρ
def lpS (C : Cfg) (t b : Ir) (ds : List PD) (ρ : DEn) : Option Out := forL t (evS C b) ds ρ
def whS (C : Cfg) (c b : Ir) (n : Nat) (ρ : DEn) : Option Out := whileL (evX C c) (evS C b) n ρ
def cmS (C : Cfg) (t c e : Ir) (ρ : DEn) (ds acc : List PD) : Option (List PD) := compL t (evX C c) (evX C e) ρ ds acc
section
variable (C : Cfg) (ρ : DEn)

theorem oXt_non  : oX C true .non ρ = (match evX C .non ρ with | some (r, ρ1) => some (.res r, ρ1) | none => none) := id rfl
theorem oXf_non  : oX C false .non ρ = (match evX C .non ρ with | some (r, ρ1) => (match frz r with | some d => some (.res (.val d), ρ1) | none => none) | none => none) := id rfl
theorem oXt_bl (b : Bool) : oX C true (.bl b) ρ = (match evX C (.bl b) ρ with | some (r, ρ1) => some (.res r, ρ1) | none => none) := id rfl
theorem oXf_bl (b : Bool) : oX C false (.bl b) ρ = (match evX C (.bl b) ρ with | some (r, ρ1) => (match frz r with | some d => some (.res (.val d), ρ1) | none => none) | none => none) := id rfl
theorem oXt_int (i : Int) : oX C true (.int i) ρ = (match evX C (.int i) ρ with | some (r, ρ1) => some (.res r, ρ1) | none => none) := id rfl
theorem oXf_int (i : Int) : oX C false (.int i) ρ = (match evX C (.int i) ρ with | some (r, ρ1) => (match frz r with | some d => some (.res (.val d), ρ1) | none => none) | none => none) := id rfl
theorem oXt_str (s : Str) : oX C true (.str s) ρ = (match evX C (.str s) ρ with | some (r, ρ1) => some (.res r, ρ1) | none => none) := id rfl
theorem oXf_str (s : Str) : oX C false (.str s) ρ = (match evX C (.str s) ρ with | some (r, ρ1) => (match frz r with | some d => some (.res (.val d), ρ1) | none => none) | none => none) := id rfl
theorem oXt_glb (g : Nat) : oX C true (.glb g) ρ = (match evX C (.glb g) ρ with | some (r, ρ1) => some (.res r, ρ1) | none => none) := id rfl
theorem oXf_glb (g : Nat) : oX C false (.glb g) ρ = (match evX C (.glb g) ρ with | some (r, ρ1) => (match frz r with | some d => some (.res (.val d), ρ1) | none => none) | none => none) := id rfl
theorem oXt_bin (o : Bop) (a b : Ir) : oX C true (.bin o a b) ρ = (match evX C (.bin o a b) ρ with | some (r, ρ1) => some (.res r, ρ1) | none => none) := id rfl
theorem oXf_bin (o : Bop) (a b : Ir) : oX C false (.bin o a b) ρ = (match evX C (.bin o a b) ρ with | some (r, ρ1) => (match frz r with | some d => some (.res (.val d), ρ1) | none => none) | none => none) := id rfl
theorem oXt_neg (a : Ir) : oX C true (.neg a) ρ = (match evX C (.neg a) ρ with | some (r, ρ1) => some (.res r, ρ1) | none => none) := id rfl
theorem oXf_neg (a : Ir) : oX C false (.neg a) ρ = (match evX C (.neg a) ρ with | some (r, ρ1) => (match frz r with | some d => some (.res (.val d), ρ1) | none => none) | none => none) := id rfl
theorem oXt_not (a : Ir) : oX C true (.not a) ρ = (match evX C (.not a) ρ with | some (r, ρ1) => some (.res r, ρ1) | none => none) := id rfl
theorem oXf_not (a : Ir) : oX C false (.not a) ρ = (match evX C (.not a) ρ with | some (r, ρ1) => (match frz r with | some d => some (.res (.val d), ρ1) | none => none) | none => none) := id rfl
theorem oXt_cmp (o : Cop) (a b : Ir) : oX C true (.cmp o a b) ρ = (match evX C (.cmp o a b) ρ with | some (r, ρ1) => some (.res r, ρ1) | none => none) := id rfl
theorem oXf_cmp (o : Cop) (a b : Ir) : oX C false (.cmp o a b) ρ = (match evX C (.cmp o a b) ρ with | some (r, ρ1) => (match frz r with | some d => some (.res (.val d), ρ1) | none => none) | none => none) := id rfl
theorem oXt_chain (o p : Cop) (a b c : Ir) : oX C true (.chain o p a b c) ρ = (match evX C (.chain o p a b c) ρ with | some (r, ρ1) => some (.res r, ρ1) | none => none) := id rfl
theorem oXf_chain (o p : Cop) (a b c : Ir) : oX C false (.chain o p a b c) ρ = (match evX C (.chain o p a b c) ρ with | some (r, ρ1) => (match frz r with | some d => some (.res (.val d), ρ1) | none => none) | none => none) := id rfl
theorem oXt_and (a b : Ir) : oX C true (.and a b) ρ = (match evX C (.and a b) ρ with | some (r, ρ1) => some (.res r, ρ1) | none => none) := id rfl
theorem oXf_and (a b : Ir) : oX C false (.and a b) ρ = (match evX C (.and a b) ρ with | some (r, ρ1) => (match frz r with | some d => some (.res (.val d), ρ1) | none => none) | none => none) := id rfl
theorem oXt_or (a b : Ir) : oX C true (.or a b) ρ = (match evX C (.or a b) ρ with | some (r, ρ1) => some (.res r, ρ1) | none => none) := id rfl
theorem oXf_or (a b : Ir) : oX C false (.or a b) ρ = (match evX C (.or a b) ρ with | some (r, ρ1) => (match frz r with | some d => some (.res (.val d), ρ1) | none => none) | none => none) := id rfl
theorem oXt_ife (c a b : Ir) : oX C true (.ife c a b) ρ = (match evX C (.ife c a b) ρ with | some (r, ρ1) => some (.res r, ρ1) | none => none) := id rfl
theorem oXf_ife (c a b : Ir) : oX C false (.ife c a b) ρ = (match evX C (.ife c a b) ρ with | some (r, ρ1) => (match frz r with | some d => some (.res (.val d), ρ1) | none => none) | none => none) := id rfl
theorem oXt_sub (a b : Ir) : oX C true (.sub a b) ρ = (match evX C (.sub a b) ρ with | some (r, ρ1) => some (.res r, ρ1) | none => none) := id rfl
theorem oXf_sub (a b : Ir) : oX C false (.sub a b) ρ = (match evX C (.sub a b) ρ with | some (r, ρ1) => (match frz r with | some d => some (.res (.val d), ρ1) | none => none) | none => none) := id rfl
theorem oXt_slc (a lo hi : Ir) : oX C true (.slc a lo hi) ρ = (match evX C (.slc a lo hi) ρ with | some (r, ρ1) => some (.res r, ρ1) | none => none) := id rfl
theorem oXf_slc (a lo hi : Ir) : oX C false (.slc a lo hi) ρ = (match evX C (.slc a lo hi) ρ with | some (r, ρ1) => (match frz r with | some d => some (.res (.val d), ρ1) | none => none) | none => none) := id rfl
theorem oXt_rev (a : Ir) : oX C true (.rev a) ρ = (match evX C (.rev a) ρ with | some (r, ρ1) => some (.res r, ρ1) | none => none) := id rfl
theorem oXf_rev (a : Ir) : oX C false (.rev a) ρ = (match evX C (.rev a) ρ with | some (r, ρ1) => (match frz r with | some d => some (.res (.val d), ρ1) | none => none) | none => none) := id rfl
theorem oXt_tup (es : Ir) : oX C true (.tup es) ρ = (match evX C (.tup es) ρ with | some (r, ρ1) => some (.res r, ρ1) | none => none) := id rfl
theorem oXf_tup (es : Ir) : oX C false (.tup es) ρ = (match evX C (.tup es) ρ with | some (r, ρ1) => (match frz r with | some d => some (.res (.val d), ρ1) | none => none) | none => none) := id rfl
theorem oXt_lst (es : Ir) : oX C true (.lst es) ρ = (match evX C (.lst es) ρ with | some (r, ρ1) => some (.res r, ρ1) | none => none) := id rfl
theorem oXf_lst (es : Ir) : oX C false (.lst es) ρ = (match evX C (.lst es) ρ with | some (r, ρ1) => (match frz r with | some d => some (.res (.val d), ρ1) | none => none) | none => none) := id rfl
theorem oXt_call (f : Nat) (es : Ir) : oX C true (.call f es) ρ = (match evX C (.call f es) ρ with | some (r, ρ1) => some (.res r, ρ1) | none => none) := id rfl
theorem oXf_call (f : Nat) (es : Ir) : oX C false (.call f es) ρ = (match evX C (.call f es) ρ with | some (r, ρ1) => (match frz r with | some d => some (.res (.val d), ρ1) | none => none) | none => none) := id rfl
theorem oXt_prim (p : Pr) (es : Ir) : oX C true (.prim p es) ρ = (match evX C (.prim p es) ρ with | some (r, ρ1) => some (.res r, ρ1) | none => none) := id rfl
theorem oXf_prim (p : Pr) (es : Ir) : oX C false (.prim p es) ρ = (match evX C (.prim p es) ρ with | some (r, ρ1) => (match frz r with | some d => some (.res (.val d), ρ1) | none => none) | none => none) := id rfl
theorem oXt_isi (ts : List Ty) (a : Ir) : oX C true (.isi ts a) ρ = (match evX C (.isi ts a) ρ with | some (r, ρ1) => some (.res r, ρ1) | none => none) := id rfl
theorem oXf_isi (ts : List Ty) (a : Ir) : oX C false (.isi ts a) ρ = (match evX C (.isi ts a) ρ with | some (r, ρ1) => (match frz r with | some d => some (.res (.val d), ρ1) | none => none) | none => none) := id rfl
theorem oXt_comp (t it c e : Ir) (vs : List Nat) : oX C true (.comp t it c e vs) ρ = (match evX C (.comp t it c e vs) ρ with | some (r, ρ1) => some (.res r, ρ1) | none => none) := id rfl
theorem oXf_comp (t it c e : Ir) (vs : List Nat) : oX C false (.comp t it c e vs) ρ = (match evX C (.comp t it c e vs) ρ with | some (r, ρ1) => (match frz r with | some d => some (.res (.val d), ρ1) | none => none) | none => none) := id rfl
theorem oXt_app (i : Nat) (e : Ir) : oX C true (.app i e) ρ = (match evX C (.app i e) ρ with | some (r, ρ1) => some (.res r, ρ1) | none => none) := id rfl
theorem oXf_app (i : Nat) (e : Ir) : oX C false (.app i e) ρ = (match evX C (.app i e) ρ with | some (r, ρ1) => (match frz r with | some d => some (.res (.val d), ρ1) | none => none) | none => none) := id rfl
theorem oXt_ext (i : Nat) (e : Ir) : oX C true (.ext i e) ρ = (match evX C (.ext i e) ρ with | some (r, ρ1) => some (.res r, ρ1) | none => none) := id rfl
theorem oXf_ext (i : Nat) (e : Ir) : oX C false (.ext i e) ρ = (match evX C (.ext i e) ρ with | some (r, ρ1) => (match frz r with | some d => some (.res (.val d), ρ1) | none => none) | none => none) := id rfl
theorem oXt_pop (i : Nat) : oX C true (.pop i) ρ = (match evX C (.pop i) ρ with | some (r, ρ1) => some (.res r, ρ1) | none => none) := id rfl
theorem oXf_pop (i : Nat) : oX C false (.pop i) ρ = (match evX C (.pop i) ρ with | some (r, ρ1) => (match frz r with | some d => some (.res (.val d), ρ1) | none => none) | none => none) := id rfl
theorem oXf_var (i : Nat) : oX C false (.var i) ρ = (match evX C (.var i) ρ with | some (r, ρ1) => (match frz r with | some d => some (.res (.val d), ρ1) | none => none) | none => none) := id rfl
theorem oXt_var (i : Nat) : oX C true (.var i) ρ = (match ρ[i]? with | some .un => none | none => none | _ => some (.slot i, ρ)) := id rfl
theorem oX_lend (m : Bool) (i : Nat) : oX C m (.lend i) ρ = (match ρ[i]? with | some (.own _ _) => some (.slot i, ρ) | _ => none) := by cases m <;> exact id rfl
theorem eX_var (i : Nat) : evX C (.var i) ρ = (match ρ[i]? with | some (.val d) => some (.val d, ρ) | some (.own _ ds) => some (.val (.list ds), ρ.set i (.val (.list ds))) | _ => none) := id rfl
theorem eX_non  : evX C .non ρ = (some (.val .none, ρ)) := id rfl
theorem eX_bl (b : Bool) : evX C (.bl b) ρ = (some (.val (.bool b), ρ)) := id rfl
theorem eX_int (i : Int) : evX C (.int i) ρ = (some (.val (.int i), ρ)) := id rfl
theorem eX_str (s : Str) : evX C (.str s) ρ = (some (.val (.str s), ρ)) := id rfl
theorem eX_glb (g : Nat) : evX C (.glb g) ρ = (match C.gl g with | some d => some (.val d, ρ) | none => none) := id rfl
theorem eX_bin (o : Bop) (a b : Ir) : evX C (.bin o a b) ρ = (match oX C true a ρ with | none => none | some (x, ρ1) => match oX C true b ρ1 with | none => none | some (y, ρ2) => match rdO ρ2 x, rdO ρ2 y with | some d, some e => (match bopD o d e with | some r => some (r, ρ2) | none => none) | _, _ => none) := id rfl
theorem eX_neg (a : Ir) : evX C (.neg a) ρ = (match evX C a ρ with | some (.val (.int i), ρ1) => some (.val (.int (-i)), ρ1) | _ => none) := id rfl
theorem eX_not (a : Ir) : evX C (.not a) ρ = (match evX C a ρ with | some (.val (.bool b), ρ1) => some (.val (.bool (!b)), ρ1) | _ => none) := id rfl
theorem eX_cmp (o : Cop) (a b : Ir) : evX C (.cmp o a b) ρ = (match oX C true a ρ with | none => none | some (x, ρ1) => match oX C true b ρ1 with | none => none | some (y, ρ2) => match rdO ρ2 x, rdO ρ2 y with | some d, some e => (match copD o d e with | some r => some (.val (.bool r), ρ2) | none => none) | _, _ => none) := id rfl
theorem eX_chain (o p : Cop) (a b c : Ir) : evX C (.chain o p a b c) ρ = (match oX C true a ρ with | none => none | some (x, ρ1) => match oX C true b ρ1 with | none => none | some (y, ρ2) => match rdO ρ2 x, rdO ρ2 y with | some d, some e => (match copD o d e with | some false => some (.val (.bool false), ρ2) | some true => (match oX C true c ρ2 with | none => none | some (z, ρ3) => match rdO ρ3 y, rdO ρ3 z with | some e', some f => (match copD p e' f with | some r => some (.val (.bool r), ρ3) | none => none) | _, _ => none) | none => none) | _, _ => none) := id rfl
theorem eX_and (a b : Ir) : evX C (.and a b) ρ = (match evX C a ρ with | some (.val (.bool true), ρ1) => evX C b ρ1 | some (.val (.bool false), ρ1) => some (.val (.bool false), ρ1) | _ => none) := id rfl
theorem eX_or (a b : Ir) : evX C (.or a b) ρ = (match evX C a ρ with | some (.val (.bool false), ρ1) => evX C b ρ1 | some (.val (.bool true), ρ1) => some (.val (.bool true), ρ1) | _ => none) := id rfl
theorem eX_ife (c a b : Ir) : evX C (.ife c a b) ρ = (match evX C c ρ with | some (.val (.bool true), ρ1) => evX C a ρ1 | some (.val (.bool false), ρ1) => evX C b ρ1 | _ => none) := id rfl
theorem eX_sub (a b : Ir) : evX C (.sub a b) ρ = (match oX C true a ρ with | none => none | some (x, ρ1) => match oX C true b ρ1 with | none => none | some (y, ρ2) => match rdO ρ2 x, rdO ρ2 y with | some d, some e => (match subD d e with | some r => some (.val r, ρ2) | none => none) | _, _ => none) := id rfl
theorem eX_slc (a lo hi : Ir) : evX C (.slc a lo hi) ρ = (match oX C true a ρ with | none => none | some (x, ρ1) => match evP C lo ρ1 with | none => none | some (l, ρ2) => match evP C hi ρ2 with | none => none | some (h, ρ3) => match rdO ρ3 x with | some d => (match slD d l h with | some r => some (r, ρ3) | none => none) | none => none) := id rfl
theorem eX_rev (a : Ir) : evX C (.rev a) ρ = (match oX C true a ρ with | none => none | some (x, ρ1) => match rdO ρ1 x with | some (.list ds) => some (.own none ds.reverse, ρ1) | _ => none) := id rfl
theorem eX_tup (es : Ir) : evX C (.tup es) ρ = (match evL C false es ρ with | none => none | some (xs, ρ1) => match valsOf xs with | some ds => if ds.length ≤ sizeLine then some (.val (.tuple ds), ρ1) else none | none => none) := id rfl
theorem eX_lst (es : Ir) : evX C (.lst es) ρ = (match evL C false es ρ with | none => none | some (xs, ρ1) => match valsOf xs with | some ds => if ds.length ≤ sizeLine then some (.own none ds, ρ1) else none | none => none) := id rfl
theorem eX_call (f : Nat) (es : Ir) : evX C (.call f es) ρ = (match evL C false es ρ with | none => none | some (xs, ρ1) => if (slotsOf xs).Nodup then match argsOf ρ1 xs with | none => none | some as => (match C.fn f as with | none => none | some (r, os) => (match putBack ρ1 xs os with | some ρ2 => some (r, ρ2) | none => none)) else none) := id rfl
theorem eX_prim (p : Pr) (es : Ir) : evX C (.prim p es) ρ = (match evL C true es ρ with | none => none | some (xs, ρ1) => match rdAll ρ1 xs with | none => none | some ds => (match prD p ds with | some r => some (r, ρ1) | none => none)) := id rfl
theorem eX_isi (ts : List Ty) (a : Ir) : evX C (.isi ts a) ρ = (match oX C true a ρ with | none => none | some (x, ρ1) => match rdO ρ1 x with | none => none | some d => (match isiD ts d with | some b => some (.val (.bool b), ρ1) | none => none)) := id rfl
theorem eX_comp (t it c e : Ir) (vs : List Nat) : evX C (.comp t it c e vs) ρ = (match evI C true it ρ with | none => none | some (ds, ρ1) => match cmS C t c e (blkD ρ1 vs) ds [] with | some acc => some (.own none acc, ρ1) | none => none) := id rfl
theorem eX_app (i : Nat) (e : Ir) : evX C (.app i e) ρ = (match ρ[i]? with | some (.own _ _) => (match oX C false e ρ with | some (.res (.val d), ρ1) => (match ρ1[i]? with | some (.own p ds) => if ds.length < sizeLine then some (.val .none, ρ1.set i (.own p (ds ++ [d]))) else none | _ => none) | _ => none) | _ => none) := id rfl
theorem eX_ext (i : Nat) (e : Ir) : evX C (.ext i e) ρ = (match ρ[i]? with | some (.own _ _) => (match oX C false e ρ with | some (.res (.val d), ρ1) => (match ρ1[i]? with | some (.own p ds) => (match seqD d with | some es => if ds.length + es.length ≤ sizeLine then some (.val .none, ρ1.set i (.own p (ds ++ es))) else none | none => none) | _ => none) | _ => none) | _ => none) := id rfl
theorem eX_pop (i : Nat) : evX C (.pop i) ρ = (match ρ[i]? with | some (.own p ds) => (match ds[ds.length - 1]? with | some d => some (.val d, ρ.set i (.own p ds.dropLast)) | none => none) | _ => none) := id rfl
theorem eP_nil  : evP C .nil ρ = some (none, ρ) := id rfl
theorem eP_cons (a b : Ir) : evP C (.cons a b) ρ = (match evX C a ρ with | some (.val (.int i), ρ1) => some (some i, ρ1) | _ => none) := id rfl
theorem eL_nil (m : Bool) : evL C m .nil ρ = some ([], ρ) := id rfl
theorem eL_cons (m : Bool) (a r : Ir) : evL C m (.cons a r) ρ = (match oX C m a ρ with | none => none | some (x, ρ1) => match evL C m r ρ1 with | none => none | some (xs, ρ2) => some (x :: xs, ρ2)) := id rfl
theorem eI_rng1 (m : Bool) (a : Ir) : evI C m (.rng1 a) ρ = (match evX C a ρ with | some (.val (.int j), ρ1) => (match rngD 0 j with | some ds => some (ds, ρ1) | none => none) | _ => none) := id rfl
theorem eI_rng2 (m : Bool) (a b : Ir) : evI C m (.rng2 a b) ρ = (match evX C a ρ with | some (.val (.int i), ρ1) => (match evX C b ρ1 with | some (.val (.int j), ρ2) => (match rngD i j with | some ds => some (ds, ρ2) | none => none) | _ => none) | _ => none) := id rfl
theorem eI_cons (m : Bool) (a b : Ir) : evI C m (.cons a b) ρ = (match oX C m a ρ with | none => none | some (x, ρ1) => match rdO ρ1 x with | none => none | some d => match seqD d with | some ds => some (ds, ρ1) | none => none) := id rfl
theorem eS_nil  : evS C .nil ρ = (some (.nx ρ)) := id rfl
theorem eS_cons (a b : Ir) : evS C (.cons a b) ρ = (match evS C a ρ with | some (.nx ρ1) => evS C b ρ1 | o => o) := id rfl
theorem eS_set (i : Nat) (keep : Bool) (e : Ir) : evS C (.set i keep e) ρ = (match evX C e ρ with | none => none | some (r, ρ1) => if i < ρ1.length then (match keep with | true => (match r with | .own _ ds => some (.nx (ρ1.set i (.own none ds))) | _ => none) | false => (match frz r with | some d => some (.nx (ρ1.set i (.val d))) | none => none)) else none) := id rfl
theorem eS_unp (t e : Ir) : evS C (.unp t e) ρ = (match evX C e ρ with | none => none | some (r, ρ1) => match frz r with | none => none | some d => match asg t d ρ1 with | some ρ2 => some (.nx ρ2) | none => none) := id rfl
theorem eS_sti (i : Nat) (ix e : Ir) : evS C (.sti i ix e) ρ = (match evX C e ρ with | none => none | some (r, ρ1) => match frz r with | none => none | some d => match ρ1[i]? with | some (.own _ _) => (match evX C ix ρ1 with | some (.val (.int k), ρ2) => (match ρ2[i]? with | some (.own p ds) => (match ixN ds.length k with | some j => some (.nx (ρ2.set i (.own p (ds.set j d)))) | none => none) | _ => none) | _ => none) | _ => none) := id rfl
theorem eS_ex (e : Ir) : evS C (.ex e) ρ = (match evX C e ρ with | some (_, ρ1) => some (.nx ρ1) | none => none) := id rfl
theorem eS_ifs (c a b : Ir) : evS C (.ifs c a b) ρ = (match evX C c ρ with | some (.val (.bool true), ρ1) => evS C a ρ1 | some (.val (.bool false), ρ1) => evS C b ρ1 | _ => none) := id rfl
theorem eS_whl (c b : Ir) : evS C (.whl c b) ρ = (whS C c b wfuel ρ) := id rfl
theorem eS_fors (t it b : Ir) : evS C (.fors t it b) ρ = (match evI C false it ρ with | none => none | some (ds, ρ1) => lpS C t b ds ρ1) := id rfl
theorem eS_brk  : evS C .brk ρ = (some (.bk ρ)) := id rfl
theorem eS_cnt  : evS C .cnt ρ = (some (.ct ρ)) := id rfl
theorem eS_pas  : evS C .pas ρ = (some (.nx ρ)) := id rfl
theorem eS_retv (i : Nat) : evS C (.ret (.var i)) ρ = (match ρ[i]? with | some (.own none ds) => some (.rt (.own none ds) (ρ.set i .un)) | some (.val d) => some (.rt (.val d) ρ) | _ => none) := id rfl
theorem eS_ret_non  : evS C (.ret .non) ρ = (match evX C .non ρ with | some (r, ρ1) => some (.rt r ρ1) | none => none) := id rfl
theorem eS_ret_bl (b : Bool) : evS C (.ret (.bl b)) ρ = (match evX C (.bl b) ρ with | some (r, ρ1) => some (.rt r ρ1) | none => none) := id rfl
theorem eS_ret_int (i : Int) : evS C (.ret (.int i)) ρ = (match evX C (.int i) ρ with | some (r, ρ1) => some (.rt r ρ1) | none => none) := id rfl
theorem eS_ret_str (s : Str) : evS C (.ret (.str s)) ρ = (match evX C (.str s) ρ with | some (r, ρ1) => some (.rt r ρ1) | none => none) := id rfl
theorem eS_ret_glb (g : Nat) : evS C (.ret (.glb g)) ρ = (match evX C (.glb g) ρ with | some (r, ρ1) => some (.rt r ρ1) | none => none) := id rfl
theorem eS_ret_bin (o : Bop) (a b : Ir) : evS C (.ret (.bin o a b)) ρ = (match evX C (.bin o a b) ρ with | some (r, ρ1) => some (.rt r ρ1) | none => none) := id rfl
theorem eS_ret_neg (a : Ir) : evS C (.ret (.neg a)) ρ = (match evX C (.neg a) ρ with | some (r, ρ1) => some (.rt r ρ1) | none => none) := id rfl
theorem eS_ret_not (a : Ir) : evS C (.ret (.not a)) ρ = (match evX C (.not a) ρ with | some (r, ρ1) => some (.rt r ρ1) | none => none) := id rfl
theorem eS_ret_cmp (o : Cop) (a b : Ir) : evS C (.ret (.cmp o a b)) ρ = (match evX C (.cmp o a b) ρ with | some (r, ρ1) => some (.rt r ρ1) | none => none) := id rfl
theorem eS_ret_chain (o p : Cop) (a b c : Ir) : evS C (.ret (.chain o p a b c)) ρ = (match evX C (.chain o p a b c) ρ with | some (r, ρ1) => some (.rt r ρ1) | none => none) := id rfl
theorem eS_ret_and (a b : Ir) : evS C (.ret (.and a b)) ρ = (match evX C (.and a b) ρ with | some (r, ρ1) => some (.rt r ρ1) | none => none) := id rfl
theorem eS_ret_or (a b : Ir) : evS C (.ret (.or a b)) ρ = (match evX C (.or a b) ρ with | some (r, ρ1) => some (.rt r ρ1) | none => none) := id rfl
theorem eS_ret_ife (c a b : Ir) : evS C (.ret (.ife c a b)) ρ = (match evX C (.ife c a b) ρ with | some (r, ρ1) => some (.rt r ρ1) | none => none) := id rfl
theorem eS_ret_sub (a b : Ir) : evS C (.ret (.sub a b)) ρ = (match evX C (.sub a b) ρ with | some (r, ρ1) => some (.rt r ρ1) | none => none) := id rfl
theorem eS_ret_slc (a lo hi : Ir) : evS C (.ret (.slc a lo hi)) ρ = (match evX C (.slc a lo hi) ρ with | some (r, ρ1) => some (.rt r ρ1) | none => none) := id rfl
theorem eS_ret_rev (a : Ir) : evS C (.ret (.rev a)) ρ = (match evX C (.rev a) ρ with | some (r, ρ1) => some (.rt r ρ1) | none => none) := id rfl
theorem eS_ret_tup (es : Ir) : evS C (.ret (.tup es)) ρ = (match evX C (.tup es) ρ with | some (r, ρ1) => some (.rt r ρ1) | none => none) := id rfl
theorem eS_ret_lst (es : Ir) : evS C (.ret (.lst es)) ρ = (match evX C (.lst es) ρ with | some (r, ρ1) => some (.rt r ρ1) | none => none) := id rfl
theorem eS_ret_call (f : Nat) (es : Ir) : evS C (.ret (.call f es)) ρ = (match evX C (.call f es) ρ with | some (r, ρ1) => some (.rt r ρ1) | none => none) := id rfl
theorem eS_ret_prim (p : Pr) (es : Ir) : evS C (.ret (.prim p es)) ρ = (match evX C (.prim p es) ρ with | some (r, ρ1) => some (.rt r ρ1) | none => none) := id rfl
theorem eS_ret_isi (ts : List Ty) (a : Ir) : evS C (.ret (.isi ts a)) ρ = (match evX C (.isi ts a) ρ with | some (r, ρ1) => some (.rt r ρ1) | none => none) := id rfl
theorem eS_ret_comp (t it c e : Ir) (vs : List Nat) : evS C (.ret (.comp t it c e vs)) ρ = (match evX C (.comp t it c e vs) ρ with | some (r, ρ1) => some (.rt r ρ1) | none => none) := id rfl
theorem eS_ret_app (i : Nat) (e : Ir) : evS C (.ret (.app i e)) ρ = (match evX C (.app i e) ρ with | some (r, ρ1) => some (.rt r ρ1) | none => none) := id rfl
theorem eS_ret_ext (i : Nat) (e : Ir) : evS C (.ret (.ext i e)) ρ = (match evX C (.ext i e) ρ with | some (r, ρ1) => some (.rt r ρ1) | none => none) := id rfl
theorem eS_ret_pop (i : Nat) : evS C (.ret (.pop i)) ρ = (match evX C (.pop i) ρ with | some (r, ρ1) => some (.rt r ρ1) | none => none) := id rfl
theorem lpS_nil (t b : Ir) : lpS C t b [] ρ = some (.nx ρ) := id rfl
theorem lpS_cons (t b : Ir) (d : PD) (ds : List PD) : lpS C t b (d :: ds) ρ = (match asg t d ρ with | none => none | some ρ1 => match evS C b ρ1 with | some (.nx ρ2) => lpS C t b ds ρ2 | some (.ct ρ2) => lpS C t b ds ρ2 | some (.bk ρ2) => some (.nx ρ2) | some (.rt r ρ2) => some (.rt r ρ2) | none => none) := id rfl
theorem cmS_nil (t c e : Ir) (acc : List PD) : cmS C t c e ρ [] acc = some acc := id rfl
theorem cmS_cons (t c e : Ir) (d : PD) (ds acc : List PD) : cmS C t c e ρ (d :: ds) acc = (match asg t d ρ with | none => none | some ρ1 => match evX C c ρ1 with | some (.val (.bool true), ρ2) => (match evX C e ρ2 with | some (r, _) => (match frz r with | some x => if acc.length < sizeLine then cmS C t c e ρ ds (acc ++ [x]) else none | none => none) | none => none) | some (.val (.bool false), _) => cmS C t c e ρ ds acc | _ => none) := id rfl
theorem whS_step (c b : Ir) (n : Nat) : whS C c b (n + 1) ρ = (match evX C c ρ with | some (.val (.bool true), ρ1) => (match evS C b ρ1 with | some (.nx ρ2) => whS C c b n ρ2 | some (.ct ρ2) => whS C c b n ρ2 | some (.bk ρ2) => some (.nx ρ2) | some (.rt r ρ2) => some (.rt r ρ2) | none => none) | some (.val (.bool false), ρ1) => some (.nx ρ1) | _ => none) := id rfl
end
end Dv

set_option Elab.async false
set_option linter.all false
set_option maxRecDepth 100000
set_option maxHeartbeats 8000000
namespace Lw
open PySem PySem.Spec PyProof.Rows L2 Dv
def topS (i : Nat) : Stmt := PySem.Challenge.pw_livesalike_k04_blocks_put_together.main.body.getD i (.Pass ⟨0, 0, 0, 0⟩)

abbrev ir_parts_of : Ir :=
(.cons (.ifs (.or (.cmp .eq (.sub (.var 0) (.int 0)) (.str "if")) (.cmp .eq (.sub (.var 0) (.int 0)) (.str "while")))
(.cons (.ret (.slc (.var 0) (.cons (.int 2) .nil) .nil)) .nil)
.nil) (.cons (.ret (.tup .nil)) .nil))
abbrev ir_has_inner : Ir :=
(.cons (.fors (.var 1) (.cons (.var 0) .nil)
(.cons (.ifs (.cmp .eq (.sub (.var 1) (.int 0)) (.str "inner"))
(.cons (.ret (.bl true)) .nil)
.nil) (.cons (.fors (.var 2) (.cons (.call 0 (.cons (.var 1) .nil)) .nil)
(.cons (.ifs (.call 1 (.cons (.var 2) .nil))
(.cons (.ret (.bl true)) .nil)
.nil) .nil)) .nil))) (.cons (.ret (.bl false)) .nil))
abbrev ir_with_inner : Ir :=
(.cons (.ifs (.call 1 (.cons (.var 0) .nil))
(.cons (.ret (.var 0)) .nil)
.nil) (.cons (.ret (.bin .add (.var 0) (.tup (.cons (.tup (.cons (.str "inner") .nil)) .nil)))) .nil))
abbrev ir_fill : Ir :=
(.cons (.set 2 true (.lst .nil)) (.cons (.fors (.var 3) (.cons (.var 0) .nil)
(.cons (.ifs (.cmp .eq (.sub (.var 3) (.int 0)) (.str "inner"))
(.cons (.ex (.ext 2 (.var 1))) .nil)
(.cons (.ex (.app 2 (.call 4 (.cons (.var 3) (.cons (.var 1) .nil))))) .nil)) .nil)) (.cons (.ret (.prim .tuple (.cons (.var 2) .nil))) .nil)))
abbrev ir__fill_parts : Ir :=
(.cons (.set 2 false (.call 0 (.cons (.var 0) .nil))) (.cons (.ifs (.cmp .eq (.var 2) (.tup .nil))
(.cons (.ret (.var 0)) .nil)
.nil) (.cons (.ret (.bin .add (.slc (.var 0) .nil (.cons (.int 2) .nil)) (.prim .tuple (.cons (.comp (.var 3) (.cons (.var 2) .nil) (.bl true) (.call 3 (.cons (.var 3) (.cons (.var 1) .nil))) [3]) .nil)))) .nil)))
abbrev ir_numbered : Ir :=
(.cons (.set 1 true (.lst .nil)) (.cons (.ex (.call 6 (.cons (.var 0) (.cons (.lend 1) .nil)))) (.cons (.ret (.var 1)) .nil)))
abbrev ir__add_statements : Ir :=
(.cons (.fors (.var 2) (.cons (.var 0) .nil)
(.cons (.ex (.app 1 (.var 2))) (.cons (.fors (.var 3) (.cons (.call 0 (.cons (.var 2) .nil)) .nil)
(.cons (.ex (.call 6 (.cons (.var 3) (.cons (.lend 1) .nil)))) .nil)) .nil))) .nil)
abbrev ir_behind_table : Ir :=
(.cons (.set 1 true (.lst .nil)) (.cons (.ex (.call 8 (.cons (.var 0) (.cons (.lend 1) .nil)))) (.cons (.ret (.prim .tuple (.cons (.var 1) .nil))) .nil)))
abbrev ir__add_numbers : Ir :=
(.cons (.set 2 false (.lst .nil)) (.cons (.fors (.var 3) (.cons (.var 0) .nil)
(.cons (.ex (.app 1 (.non))) (.cons (.set 4 false (.prim .len (.cons (.var 1) .nil))) (.cons (.fors (.var 5) (.cons (.var 2) .nil)
(.cons (.sti 1 (.bin .sub (.var 5) (.int 1)) (.var 4)) .nil)) (.cons (.set 2 false (.lst (.cons (.var 4) .nil))) (.cons (.fors (.var 6) (.cons (.call 0 (.cons (.var 3) .nil)) .nil)
(.cons (.set 7 false (.call 8 (.cons (.var 6) (.cons (.lend 1) .nil)))) (.cons (.ifs (.cmp .eq (.sub (.var 3) (.int 0)) (.str "while"))
(.cons (.fors (.var 5) (.cons (.var 7) .nil)
(.cons (.sti 1 (.bin .sub (.var 5) (.int 1)) (.var 4)) .nil)) .nil)
(.cons (.set 2 false (.bin .add (.var 2) (.var 7))) .nil)) .nil))) .nil)))))) (.cons (.ret (.var 2)) .nil)))
abbrev ir_behind : Ir :=
(.cons (.set 2 false (.call 7 (.cons (.var 0) .nil))) (.cons (.ifs (.chain .le .le (.int 1) (.var 1) (.prim .len (.cons (.var 2) .nil)))
(.cons (.ret (.sub (.var 2) (.bin .sub (.var 1) (.int 1)))) .nil)
.nil) (.cons (.ret (.non)) .nil)))
abbrev ir_depth_of : Ir :=
(.cons (.set 1 false (.int 1)) (.cons (.fors (.var 2) (.cons (.var 0) .nil)
(.cons (.fors (.var 3) (.cons (.call 0 (.cons (.var 2) .nil)) .nil)
(.cons (.set 1 false (.prim .max (.cons (.var 1) (.cons (.bin .add (.int 1) (.call 10 (.cons (.var 3) .nil))) .nil)))) .nil)) .nil)) (.cons (.ret (.var 1)) .nil)))
abbrev ir__law_cell : Ir :=
(.cons (.ifs (.cmp .lt (.var 1) (.prim .len (.cons (.var 0) .nil)))
(.cons (.ret (.sub (.var 0) (.var 1))) .nil)
.nil) (.cons (.ret (.int 0)) .nil))
abbrev ir__law_draws : Ir :=
(.cons (.set 2 true (.lst .nil)) (.cons (.set 3 false (.prim .abs (.cons (.var 0) .nil))) (.cons (.set 4 false (.cmp .ge (.var 3) (.bin .pow (.int 10) (.int 18)))) (.cons (.fors (.var 5) (.rng1 (.var 1))
(.cons (.ifs (.and (.var 4) (.cmp .gt (.var 3) (.int 0)))
(.cons (.ex (.app 2 (.bin .mod (.prim .int (.cons (.var 3) .nil)) (.int 1000)))) (.cons (.set 3 false (.bin .div (.var 3) (.int 1000))) .nil))
(.cons (.set 6 false (.bin .mod (.prim .int (.cons (.bin .add (.bin .add (.prim .abs (.cons (.var 0) .nil)) (.bin .mul (.int 7919) (.var 5))) (.int 13)) .nil)) (.int 2147483647))) (.cons (.set 6 false (.bin .mod (.prim .int (.cons (.bin .mul (.var 6) (.bin .add (.var 6) (.int 48271))) .nil)) (.int 2147483629))) (.cons (.set 6 false (.bin .mod (.prim .int (.cons (.bin .add (.bin .mul (.var 6) (.bin .add (.var 6) (.int 69621))) (.bin .mul (.int 31) (.var 5))) .nil)) (.int 2147483647))) (.cons (.ex (.app 2 (.bin .mod (.prim .int (.cons (.bin .div (.var 6) (.int 9)) .nil)) (.int 1000)))) .nil))))) .nil)) (.cons (.ret (.var 2)) .nil)))))
abbrev ir__law_none : Ir :=
(.cons (.ret (.lst (.cons (.tup .nil) (.cons (.lst .nil) (.cons (.lst .nil) (.cons (.bl false) (.cons (.int 1) .nil))))))) .nil)
abbrev ir__law_lone : Ir :=
(.cons (.ret (.lst (.cons (.tup (.cons (.var 0) .nil)) (.cons (.lst (.cons (.var 0) .nil)) (.cons (.lst (.cons (.non) .nil)) (.cons (.cmp .eq (.var 0) (.tup (.cons (.str "inner") .nil))) (.cons (.int 1) .nil))))))) .nil)
abbrev ir__law_shifted : Ir :=
(.cons (.set 3 true (.lst .nil)) (.cons (.fors (.var 4) (.cons (.var 0) .nil)
(.cons (.ifs (.cmp .is (.var 4) (.non))
(.cons (.ex (.app 3 (.var 2))) .nil)
(.cons (.ex (.app 3 (.bin .add (.var 4) (.var 1)))) .nil)) .nil)) (.cons (.ret (.var 3)) .nil)))
abbrev ir__law_both : Ir :=
(.cons (.set 2 false (.prim .len (.cons (.sub (.var 0) (.int 1)) .nil))) (.cons (.set 3 false (.sub (.lst (.cons (.non) (.cons (.bin .add (.var 2) (.int 1)) .nil))) (.prim .int (.cons (.cmp .gt (.prim .len (.cons (.sub (.var 1) (.int 1)) .nil)) (.int 0)) .nil)))) (.cons (.set 4 false (.bin .add (.call 15 (.cons (.sub (.var 0) (.int 2)) (.cons (.int 0) (.cons (.var 3) .nil)))) (.call 15 (.cons (.sub (.var 1) (.int 2)) (.cons (.var 2) (.cons (.non) .nil)))))) (.cons (.ret (.lst (.cons (.bin .add (.sub (.var 0) (.int 0)) (.sub (.var 1) (.int 0))) (.cons (.bin .add (.sub (.var 0) (.int 1)) (.sub (.var 1) (.int 1))) (.cons (.var 4) (.cons (.or (.sub (.var 0) (.int 3)) (.sub (.var 1) (.int 3))) (.cons (.prim .max (.cons (.sub (.var 0) (.int 4)) (.cons (.sub (.var 1) (.int 4)) .nil))) .nil))))))) .nil))))
abbrev ir__law_if : Ir :=
(.cons (.set 3 false (.tup (.cons (.str "if") (.cons (.var 0) (.cons (.sub (.var 1) (.int 0)) (.cons (.sub (.var 2) (.int 0)) .nil)))))) (.cons (.set 4 false (.bin .add (.bin .add (.lst (.cons (.non) .nil)) (.call 15 (.cons (.sub (.var 1) (.int 2)) (.cons (.int 1) (.cons (.non) .nil))))) (.call 15 (.cons (.sub (.var 2) (.int 2)) (.cons (.bin .add (.int 1) (.prim .len (.cons (.sub (.var 1) (.int 1)) .nil))) (.cons (.non) .nil)))))) (.cons (.ret (.lst (.cons (.tup (.cons (.var 3) .nil)) (.cons (.bin .add (.bin .add (.lst (.cons (.var 3) .nil)) (.sub (.var 1) (.int 1))) (.sub (.var 2) (.int 1))) (.cons (.var 4) (.cons (.or (.sub (.var 1) (.int 3)) (.sub (.var 2) (.int 3))) (.cons (.bin .add (.int 1) (.prim .max (.cons (.sub (.var 1) (.int 4)) (.cons (.sub (.var 2) (.int 4)) .nil)))) .nil))))))) .nil)))
abbrev ir__law_while : Ir :=
(.cons (.set 2 false (.tup (.cons (.str "while") (.cons (.var 0) (.cons (.sub (.var 1) (.int 0)) .nil))))) (.cons (.ret (.lst (.cons (.tup (.cons (.var 2) .nil)) (.cons (.bin .add (.lst (.cons (.var 2) .nil)) (.sub (.var 1) (.int 1))) (.cons (.bin .add (.lst (.cons (.non) .nil)) (.call 15 (.cons (.sub (.var 1) (.int 2)) (.cons (.int 1) (.cons (.int 1) .nil))))) (.cons (.sub (.var 1) (.int 3)) (.cons (.bin .add (.int 1) (.sub (.var 1) (.int 4))) .nil))))))) .nil))
abbrev ir__law_simple : Ir :=
(.cons (.set 2 false (.tup (.cons (.str "name") (.cons (.bin .add (.str "a") (.prim .str (.cons (.var 1) .nil))) .nil)))) (.cons (.set 3 false (.tup (.cons (.str "number") (.cons (.var 1) .nil)))) (.cons (.set 4 false (.lst (.cons (.tup (.cons (.str "set") (.cons (.var 2) (.cons (.var 3) .nil)))) (.cons (.tup (.cons (.str "tell") (.cons (.str "word") (.cons (.tup (.cons (.var 3) (.cons (.var 2) .nil))) .nil)))) (.cons (.tup (.cons (.str "do") (.cons (.bin .add (.str "d") (.prim .str (.cons (.var 1) .nil))) (.cons (.tup (.cons (.var 3) .nil)) .nil)))) (.cons (.tup (.cons (.str "hold") (.cons (.var 3) .nil))) (.cons (.tup (.cons (.str "sleep") .nil)) (.cons (.tup (.cons (.str "wake") (.cons (.var 2) (.cons (.non) .nil)))) (.cons (.tup (.cons (.str "wake") (.cons (.var 2) (.cons (.var 3) .nil)))) (.cons (.tup (.cons (.str "stop") (.cons (.var 2) .nil))) (.cons (.tup (.cons (.str "seize") (.cons (.bin .add (.str "s") (.prim .str (.cons (.var 1) .nil))) (.cons (.var 3) .nil)))) (.cons (.tup (.cons (.str "free") (.cons (.bin .add (.str "s") (.prim .str (.cons (.var 1) .nil))) (.cons (.var 3) .nil)))) (.cons (.tup (.cons (.str "wait") (.cons (.bin .add (.str "g") (.prim .str (.cons (.var 1) .nil))) .nil))) (.cons (.tup (.cons (.str "open") (.cons (.bin .add (.str "g") (.prim .str (.cons (.var 1) .nil))) .nil))) (.cons (.tup (.cons (.str "shut") (.cons (.bin .add (.str "g") (.prim .str (.cons (.var 1) .nil))) .nil))) (.cons (.tup (.cons (.str "put") (.cons (.bin .add (.str "l") (.prim .str (.cons (.var 1) .nil))) (.cons (.var 3) .nil)))) (.cons (.tup (.cons (.str "take") (.cons (.var 2) (.cons (.bin .add (.str "l") (.prim .str (.cons (.var 1) .nil))) .nil)))) (.cons (.tup (.cons (.str "make") (.cons (.var 2) (.cons (.bin .add (.str "c") (.prim .str (.cons (.var 1) .nil))) (.cons (.tup (.cons (.var 3) (.cons (.var 3) .nil))) .nil))))) (.cons (.tup (.cons (.str "leave") .nil)) .nil))))))))))))))))))) (.cons (.ret (.sub (.var 4) (.bin .mod (.prim .int (.cons (.var 0) .nil)) (.int 17)))) .nil))))
abbrev ir__law_step : Ir :=
(.cons (.set 5 false (.pop 0)) (.cons (.ifs (.or (.cmp .eq (.var 1) (.int 0)) (.cmp .gt (.var 1) (.int 8)))
(.cons (.ex (.app 0 (.var 5))) (.cons (.ex (.app 0 (.var 3))) .nil))
(.cons (.ifs (.cmp .eq (.var 1) (.int 1))
(.cons (.ex (.app 0 (.var 5))) (.cons (.ex (.app 0 (.lst (.cons (.call 13 .nil) (.cons (.call 13 .nil) .nil))))) .nil))
(.cons (.ifs (.or (.cmp .eq (.var 1) (.int 2)) (.cmp .ge (.sub (.sub (.var 5) (.int 0)) (.int 4)) (.var 4)))
(.cons (.ex (.app 0 (.lst (.cons (.call 16 (.cons (.sub (.var 5) (.int 0)) (.cons (.sub (.var 3) (.int 0)) .nil))) (.cons (.call 16 (.cons (.sub (.var 5) (.int 1)) (.cons (.sub (.var 3) (.int 1)) .nil))) .nil))))) .nil)
(.cons (.ifs (.cmp .eq (.var 1) (.int 3))
(.cons (.ex (.app 0 (.lst (.cons (.call 17 (.cons (.var 2) (.cons (.sub (.var 5) (.int 0)) (.cons (.call 13 .nil) .nil)))) (.cons (.call 17 (.cons (.var 2) (.cons (.sub (.var 5) (.int 1)) (.cons (.call 13 .nil) .nil)))) .nil))))) .nil)
(.cons (.ifs (.cmp .eq (.var 1) (.int 4))
(.cons (.ex (.app 0 (.lst (.cons (.call 18 (.cons (.var 2) (.cons (.sub (.var 5) (.int 0)) .nil))) (.cons (.call 18 (.cons (.var 2) (.cons (.sub (.var 5) (.int 1)) .nil))) .nil))))) .nil)
(.cons (.ifs (.cmp .eq (.prim .len (.cons (.var 0) .nil)) (.int 0))
(.cons (.ex (.app 0 (.lst (.cons (.call 17 (.cons (.var 2) (.cons (.sub (.var 3) (.int 0)) (.cons (.sub (.var 5) (.int 0)) .nil)))) (.cons (.call 17 (.cons (.var 2) (.cons (.sub (.var 3) (.int 1)) (.cons (.sub (.var 5) (.int 1)) .nil)))) .nil))))) .nil)
(.cons (.set 6 false (.pop 0)) (.cons (.ifs (.or (.cmp .lt (.var 1) (.int 7)) (.cmp .ge (.sub (.sub (.var 6) (.int 0)) (.int 4)) (.var 4)))
(.cons (.ex (.app 0 (.lst (.cons (.call 16 (.cons (.sub (.var 6) (.int 0)) (.cons (.sub (.var 5) (.int 0)) .nil))) (.cons (.call 16 (.cons (.sub (.var 6) (.int 1)) (.cons (.sub (.var 5) (.int 1)) .nil))) .nil))))) .nil)
(.cons (.ex (.app 0 (.lst (.cons (.call 17 (.cons (.var 2) (.cons (.sub (.var 6) (.int 0)) (.cons (.sub (.var 5) (.int 0)) .nil)))) (.cons (.call 17 (.cons (.var 2) (.cons (.sub (.var 6) (.int 1)) (.cons (.sub (.var 5) (.int 1)) .nil)))) .nil))))) .nil)) .nil))) .nil)) .nil)) .nil)) .nil)) .nil)) .nil))
abbrev ir__law_grown : Ir :=
(.cons (.set 4 false (.call 12 (.cons (.var 0) (.cons (.int 41) .nil)))) (.cons (.set 5 true (.lst (.cons (.lst (.cons (.call 13 .nil) (.cons (.call 13 .nil) .nil))) .nil))) (.cons (.fors (.var 6) (.rng1 (.bin .mod (.prim .int (.cons (.sub (.var 4) (.int 40)) .nil)) (.int 21)))
(.cons (.set 7 false (.call 19 (.cons (.sub (.var 4) (.bin .add (.bin .mul (.int 2) (.var 6)) (.int 1))) (.cons (.bin .add (.var 2) (.var 6)) .nil)))) (.cons (.set 8 false (.lst (.cons (.call 14 (.cons (.var 7) .nil)) (.cons (.call 14 (.cons (.var 7) .nil)) .nil)))) (.cons (.ifs (.and (.cmp .eq (.bin .mod (.prim .int (.cons (.bin .div (.sub (.var 4) (.bin .add (.bin .mul (.int 2) (.var 6)) (.int 1))) (.int 17)) .nil)) (.int 6)) (.int 0)) (.cmp .eq (.prim .len (.cons (.comp (.var 9) (.cons (.var 5) .nil) (.sub (.sub (.var 9) (.int 0)) (.int 3)) (.var 9) [9]) .nil)) (.int 0)))
(.cons (.set 8 false (.lst (.cons (.call 14 (.cons (.tup (.cons (.str "inner") .nil)) .nil)) (.cons (.var 3) .nil)))) .nil)
.nil) (.cons (.ex (.call 20 (.cons (.lend 5) (.cons (.bin .mod (.prim .int (.cons (.sub (.var 4) (.bin .mul (.int 2) (.var 6))) .nil)) (.int 12)) (.cons (.tup (.cons (.str "name") (.cons (.bin .add (.str "t") (.prim .str (.cons (.bin .add (.var 2) (.var 6)) .nil))) .nil))) (.cons (.var 8) (.cons (.var 1) .nil))))))) .nil))))) (.cons (.set 10 false (.lst (.cons (.call 13 .nil) (.cons (.call 13 .nil) .nil)))) (.cons (.fors (.var 9) (.cons (.var 5) .nil)
(.cons (.set 10 false (.lst (.cons (.call 16 (.cons (.sub (.var 10) (.int 0)) (.cons (.sub (.var 9) (.int 0)) .nil))) (.cons (.call 16 (.cons (.sub (.var 10) (.int 1)) (.cons (.sub (.var 9) (.int 1)) .nil))) .nil)))) .nil)) (.cons (.ret (.var 10)) .nil))))))
abbrev ir__law_alike : Ir :=
(.cons (.ret (.and (.cmp .eq (.var 0) (.var 1)) (.cmp .eq (.prim .repr (.cons (.var 0) .nil)) (.prim .repr (.cons (.var 1) .nil))))) .nil)
abbrev ir__law_told : Ir :=
(.cons (.set 1 false (.sub (.var 0) (.int 0))) (.cons (.ifs (.or (.not (.call 22 (.cons (.call 5 (.cons (.var 1) .nil)) (.cons (.sub (.var 0) (.int 1)) .nil)))) (.not (.call 22 (.cons (.call 10 (.cons (.var 1) .nil)) (.cons (.sub (.var 0) (.int 4)) .nil)))))
(.cons (.ret (.bl false)) .nil)
.nil) (.cons (.ifs (.not (.call 22 (.cons (.comp (.var 2) (.rng1 (.prim .len (.cons (.sub (.var 0) (.int 1)) .nil))) (.bl true) (.call 9 (.cons (.var 1) (.cons (.bin .add (.var 2) (.int 1)) .nil))) [2]) (.cons (.sub (.var 0) (.int 2)) .nil))))
(.cons (.ret (.bl false)) .nil)
.nil) (.cons (.set 3 false (.var 1)) (.cons (.ifs (.not (.sub (.var 0) (.int 3)))
(.cons (.set 3 false (.bin .add (.var 1) (.tup (.cons (.tup (.cons (.str "inner") .nil)) .nil)))) .nil)
.nil) (.cons (.ret (.and (.call 22 (.cons (.call 1 (.cons (.var 1) .nil)) (.cons (.sub (.var 0) (.int 3)) .nil))) (.call 22 (.cons (.call 2 (.cons (.var 1) .nil)) (.cons (.var 3) .nil))))) .nil))))))
abbrev ir_law : Ir :=
(.cons (.set 1 false (.call 12 (.cons (.call 11 (.cons (.var 0) (.cons (.int 0) .nil))) (.cons (.int 2) .nil)))) (.cons (.set 2 false (.bin .add (.int 1) (.bin .mod (.prim .int (.cons (.sub (.var 1) (.int 0)) .nil)) (.int 7)))) (.cons (.set 3 false (.call 21 (.cons (.call 11 (.cons (.var 0) (.cons (.int 1) .nil))) (.cons (.var 2) (.cons (.int 0) (.cons (.call 13 .nil) .nil)))))) (.cons (.set 4 false (.call 21 (.cons (.call 11 (.cons (.var 0) (.cons (.int 2) .nil))) (.cons (.bin .sub (.int 8) (.var 2)) (.cons (.int 50) (.cons (.sub (.var 3) (.int 0)) .nil)))))) (.cons (.set 5 false (.call 21 (.cons (.call 11 (.cons (.var 0) (.cons (.int 2) .nil))) (.cons (.bin .sub (.int 8) (.var 2)) (.cons (.int 50) (.cons (.call 13 .nil) .nil)))))) (.cons (.set 6 false (.call 21 (.cons (.call 11 (.cons (.var 0) (.cons (.int 1) .nil))) (.cons (.var 2) (.cons (.int 0) (.cons (.sub (.var 4) (.int 0)) .nil)))))) (.cons (.set 7 false (.tup (.cons (.str "==") (.cons (.tup (.cons (.str "name") (.cons (.str "a") .nil))) (.cons (.tup (.cons (.str "none") .nil)) .nil))))) (.cons (.set 8 false (.call 14 (.cons (.tup (.cons (.str "hold") (.cons (.tup (.cons (.str "number") (.cons (.int 99) .nil))) .nil))) .nil))) (.cons (.set 9 false (.lst (.cons (.sub (.var 6) (.int 0)) (.cons (.sub (.var 4) (.int 0)) (.cons (.sub (.var 3) (.int 1)) (.cons (.sub (.var 6) (.int 1)) (.cons (.sub (.var 4) (.int 1)) (.cons (.call 16 (.cons (.sub (.var 6) (.int 0)) (.cons (.sub (.var 5) (.int 1)) .nil))) (.cons (.call 17 (.cons (.var 7) (.cons (.sub (.var 6) (.int 0)) (.cons (.sub (.var 5) (.int 1)) .nil)))) (.cons (.call 16 (.cons (.call 18 (.cons (.var 7) (.cons (.sub (.var 4) (.int 0)) .nil))) (.cons (.sub (.var 3) (.int 1)) .nil))) (.cons (.call 16 (.cons (.call 17 (.cons (.var 7) (.cons (.sub (.var 3) (.int 1)) (.cons (.sub (.var 4) (.int 0)) .nil)))) (.cons (.var 8) .nil))) .nil))))))))))) (.cons (.fors (.var 10) (.cons (.var 9) .nil)
(.cons (.ifs (.not (.call 23 (.cons (.var 10) .nil)))
(.cons (.ret (.bl false)) .nil)
.nil) .nil)) (.cons (.ifs (.or (.not (.call 22 (.cons (.call 3 (.cons (.sub (.sub (.var 6) (.int 0)) (.int 0)) (.cons (.sub (.sub (.var 4) (.int 0)) (.int 0)) .nil))) (.cons (.sub (.sub (.var 6) (.int 1)) (.int 0)) .nil)))) (.not (.call 22 (.cons (.call 3 (.cons (.sub (.sub (.var 6) (.int 0)) (.int 0)) (.cons (.tup .nil) .nil))) (.cons (.sub (.sub (.var 3) (.int 1)) (.int 0)) .nil)))))
(.cons (.ret (.bl false)) .nil)
.nil) (.cons (.ret (.and (.call 22 (.cons (.call 3 (.cons (.sub (.sub (.var 4) (.int 0)) (.int 0)) (.cons (.sub (.sub (.var 6) (.int 0)) (.int 0)) .nil))) (.cons (.sub (.sub (.var 4) (.int 1)) (.int 0)) .nil))) (.call 22 (.cons (.call 3 (.cons (.sub (.sub (.var 4) (.int 0)) (.int 0)) (.cons (.tup .nil) .nil))) (.cons (.sub (.sub (.var 5) (.int 1)) (.int 0)) .nil))))) .nil))))))))))))
def blt : List Str := ["len", "int", "str", "abs", "tuple", "max", "repr", "range"]
def gls : List (Str × Nat) := []
def r_parts_of : DefR := ⟨"parts_of", "parts_of", topS 1, ["statement"], ["statement"], [], [false], ir_parts_of⟩
def r_has_inner : DefR := ⟨"has_inner", "has_inner", topS 2, ["block", "statement", "part"], ["block"], [], [false], ir_has_inner⟩
def r_with_inner : DefR := ⟨"with_inner", "with_inner", topS 3, ["block"], ["block"], [], [false], ir_with_inner⟩
def r_fill : DefR := ⟨"fill", "fill", topS 4, ["block", "other", "filled", "statement"], ["block", "other"], [2], [false, false], ir_fill⟩
def r__fill_parts : DefR := ⟨"_fill_parts", "_fill_parts", topS 5, ["statement", "other", "parts", "part"], ["statement", "other"], [], [false, false], ir__fill_parts⟩
def r_numbered : DefR := ⟨"numbered", "numbered", topS 6, ["block", "statements"], ["block"], [1], [false], ir_numbered⟩
def r__add_statements : DefR := ⟨"_add_statements", "_add_statements", topS 7, ["block", "statements", "statement", "part"], ["block", "statements"], [1], [false, true], ir__add_statements⟩
def r_behind_table : DefR := ⟨"behind_table", "behind_table", topS 8, ["block", "table"], ["block"], [1], [false], ir_behind_table⟩
def r__add_numbers : DefR := ⟨"_add_numbers", "_add_numbers", topS 9, ["block", "table", "waiting", "statement", "number", "earlier", "part", "inside"], ["block", "table"], [1], [false, true], ir__add_numbers⟩
def r_behind : DefR := ⟨"behind", "behind", topS 10, ["block", "number", "table"], ["block", "number"], [], [false, false], ir_behind⟩
def r_depth_of : DefR := ⟨"depth_of", "depth_of", topS 11, ["block", "depth", "statement", "part"], ["block"], [], [false], ir_depth_of⟩
def r__law_cell : DefR := ⟨"_law_cell", "_law_cell", topS 13, ["script", "k"], ["script", "k"], [], [false, false], ir__law_cell⟩
def r__law_draws : DefR := ⟨"_law_draws", "_law_draws", topS 14, ["cell", "many", "drawn", "rest", "digits", "k", "mixed"], ["cell", "many"], [2], [false, false], ir__law_draws⟩
def r__law_none : DefR := ⟨"_law_none", "_law_none", topS 15, [], [], [], [], ir__law_none⟩
def r__law_lone : DefR := ⟨"_law_lone", "_law_lone", topS 16, ["statement"], ["statement"], [], [false], ir__law_lone⟩
def r__law_shifted : DefR := ⟨"_law_shifted", "_law_shifted", topS 17, ["table", "much", "last", "found", "number"], ["table", "much", "last"], [3], [false, false, false], ir__law_shifted⟩
def r__law_both : DefR := ⟨"_law_both", "_law_both", topS 18, ["one", "two", "many", "last", "table"], ["one", "two"], [], [false, false], ir__law_both⟩
def r__law_if : DefR := ⟨"_law_if", "_law_if", topS 19, ["test", "one", "two", "statement", "table"], ["test", "one", "two"], [], [false, false, false], ir__law_if⟩
def r__law_while : DefR := ⟨"_law_while", "_law_while", topS 20, ["test", "one", "statement"], ["test", "one"], [], [false, false], ir__law_while⟩
def r__law_simple : DefR := ⟨"_law_simple", "_law_simple", topS 21, ["draw", "k", "a", "e", "menu"], ["draw", "k"], [], [false, false], ir__law_simple⟩
def r__law_step : DefR := ⟨"_law_step", "_law_step", topS 22, ["heap", "kind", "test", "lone", "deepest", "top", "below"], ["heap", "kind", "test", "lone", "deepest"], [0], [true, false, false, false, false], ir__law_step⟩
def r__law_grown : DefR := ⟨"_law_grown", "_law_grown", topS 23, ["cell", "deepest", "number", "other", "draws", "heap", "k", "statement", "lone", "pair", "whole"], ["cell", "deepest", "number", "other"], [5], [false, false, false, false], ir__law_grown⟩
def r__law_alike : DefR := ⟨"_law_alike", "_law_alike", topS 24, ["actual", "due"], ["actual", "due"], [], [false, false], ir__law_alike⟩
def r__law_told : DefR := ⟨"_law_told", "_law_told", topS 25, ["piece", "block", "k", "due"], ["piece"], [], [false], ir__law_told⟩
def r_law : DefR := ⟨"law", "law", topS 26, ["script", "heads", "deepest", "bare", "other", "plain", "one", "test", "tail", "pieces", "piece"], ["script"], [], [false], ir_law⟩
def rs : List DefR := [r_parts_of, r_has_inner, r_with_inner, r_fill, r__fill_parts, r_numbered, r__add_statements, r_behind_table, r__add_numbers, r_behind, r_depth_of, r__law_cell, r__law_draws, r__law_none, r__law_lone, r__law_shifted, r__law_both, r__law_if, r__law_while, r__law_simple, r__law_step, r__law_grown, r__law_alike, r__law_told, r_law]
theorem ok_parts_of : DefOk rs gls blt r_parts_of := ⟨⟨rfl, rfl, rfl, by decide +kernel, rfl, by decide +kernel, by decide +kernel⟩, rfl, by decide +kernel⟩
theorem ok_has_inner : DefOk rs gls blt r_has_inner := ⟨⟨rfl, rfl, rfl, by decide +kernel, rfl, by decide +kernel, by decide +kernel⟩, rfl, by decide +kernel⟩
theorem ok_with_inner : DefOk rs gls blt r_with_inner := ⟨⟨rfl, rfl, rfl, by decide +kernel, rfl, by decide +kernel, by decide +kernel⟩, rfl, by decide +kernel⟩
theorem ok_fill : DefOk rs gls blt r_fill := ⟨⟨rfl, rfl, rfl, by decide +kernel, rfl, by decide +kernel, by decide +kernel⟩, rfl, by decide +kernel⟩
theorem ok__fill_parts : DefOk rs gls blt r__fill_parts := ⟨⟨rfl, rfl, rfl, by decide +kernel, rfl, by decide +kernel, by decide +kernel⟩, rfl, by decide +kernel⟩
theorem ok_numbered : DefOk rs gls blt r_numbered := ⟨⟨rfl, rfl, rfl, by decide +kernel, rfl, by decide +kernel, by decide +kernel⟩, rfl, by decide +kernel⟩
theorem ok__add_statements : DefOk rs gls blt r__add_statements := ⟨⟨rfl, rfl, rfl, by decide +kernel, rfl, by decide +kernel, by decide +kernel⟩, rfl, by decide +kernel⟩
theorem ok_behind_table : DefOk rs gls blt r_behind_table := ⟨⟨rfl, rfl, rfl, by decide +kernel, rfl, by decide +kernel, by decide +kernel⟩, rfl, by decide +kernel⟩
theorem ok__add_numbers : DefOk rs gls blt r__add_numbers := ⟨⟨rfl, rfl, rfl, by decide +kernel, rfl, by decide +kernel, by decide +kernel⟩, rfl, by decide +kernel⟩
theorem ok_behind : DefOk rs gls blt r_behind := ⟨⟨rfl, rfl, rfl, by decide +kernel, rfl, by decide +kernel, by decide +kernel⟩, rfl, by decide +kernel⟩
theorem ok_depth_of : DefOk rs gls blt r_depth_of := ⟨⟨rfl, rfl, rfl, by decide +kernel, rfl, by decide +kernel, by decide +kernel⟩, rfl, by decide +kernel⟩
theorem ok__law_cell : DefOk rs gls blt r__law_cell := ⟨⟨rfl, rfl, rfl, by decide +kernel, rfl, by decide +kernel, by decide +kernel⟩, rfl, by decide +kernel⟩
theorem ok__law_draws : DefOk rs gls blt r__law_draws := ⟨⟨rfl, rfl, rfl, by decide +kernel, rfl, by decide +kernel, by decide +kernel⟩, rfl, by decide +kernel⟩
theorem ok__law_none : DefOk rs gls blt r__law_none := ⟨⟨rfl, rfl, rfl, by decide +kernel, rfl, by decide +kernel, by decide +kernel⟩, rfl, by decide +kernel⟩
theorem ok__law_lone : DefOk rs gls blt r__law_lone := ⟨⟨rfl, rfl, rfl, by decide +kernel, rfl, by decide +kernel, by decide +kernel⟩, rfl, by decide +kernel⟩
theorem ok__law_shifted : DefOk rs gls blt r__law_shifted := ⟨⟨rfl, rfl, rfl, by decide +kernel, rfl, by decide +kernel, by decide +kernel⟩, rfl, by decide +kernel⟩
theorem ok__law_both : DefOk rs gls blt r__law_both := ⟨⟨rfl, rfl, rfl, by decide +kernel, rfl, by decide +kernel, by decide +kernel⟩, rfl, by decide +kernel⟩
theorem ok__law_if : DefOk rs gls blt r__law_if := ⟨⟨rfl, rfl, rfl, by decide +kernel, rfl, by decide +kernel, by decide +kernel⟩, rfl, by decide +kernel⟩
theorem ok__law_while : DefOk rs gls blt r__law_while := ⟨⟨rfl, rfl, rfl, by decide +kernel, rfl, by decide +kernel, by decide +kernel⟩, rfl, by decide +kernel⟩
theorem ok__law_simple : DefOk rs gls blt r__law_simple := ⟨⟨rfl, rfl, rfl, by decide +kernel, rfl, by decide +kernel, by decide +kernel⟩, rfl, by decide +kernel⟩
theorem ok__law_step : DefOk rs gls blt r__law_step := ⟨⟨rfl, rfl, rfl, by decide +kernel, rfl, by decide +kernel, by decide +kernel⟩, rfl, by decide +kernel⟩
theorem ok__law_grown : DefOk rs gls blt r__law_grown := ⟨⟨rfl, rfl, rfl, by decide +kernel, rfl, by decide +kernel, by decide +kernel⟩, rfl, by decide +kernel⟩
theorem ok__law_alike : DefOk rs gls blt r__law_alike := ⟨⟨rfl, rfl, rfl, by decide +kernel, rfl, by decide +kernel, by decide +kernel⟩, rfl, by decide +kernel⟩
theorem ok__law_told : DefOk rs gls blt r__law_told := ⟨⟨rfl, rfl, rfl, by decide +kernel, rfl, by decide +kernel, by decide +kernel⟩, rfl, by decide +kernel⟩
theorem ok_law : DefOk rs gls blt r_law := ⟨⟨rfl, rfl, rfl, by decide +kernel, rfl, by decide +kernel, by decide +kernel⟩, rfl, by decide +kernel⟩
end Lw

set_option Elab.async false
set_option linter.all false
set_option maxRecDepth 100000
set_option maxHeartbeats 2000000
namespace Lw
open PySem PySem.Spec PyProof.Rows L2 Dv
inductive Blk where
  | nil
  | simp (h : Str) (xs : List PD) (r : Blk)
  | inner (r : Blk)
  | ife (t : PD) (a b r : Blk)
  | whl (t : PD) (a r : Blk)
def inn : PD := .tuple [.str "inner"]
def enc : Blk → List PD
  | .nil => []
  | .simp h xs r => .tuple (.str h :: xs) :: enc r
  | .inner r => inn :: enc r
  | .ife t a b r => .tuple [.str "if", t, .tuple (enc a), .tuple (enc b)] :: enc r
  | .whl t a r => .tuple [.str "while", t, .tuple (enc a)] :: enc r
def dep : Blk → Nat
  | .nil => 1
  | .simp _ _ r => dep r
  | .inner r => dep r
  | .ife _ a b r => max (dep r) (max (1 + dep a) (1 + dep b))
  | .whl _ a r => max (dep r) (1 + dep a)
theorem dep_pos : ∀ b, 1 ≤ dep b
  | .nil => Nat.le_refl 1
  | .simp _ _ r => dep_pos r
  | .inner r => dep_pos r
  | .ife _ a b r => by simp only [dep]; omega
  | .whl _ a r => by simp only [dep]; omega
/-- a simple statement's head -/
def hd (h : Str) : Bool := !(h == "if") && !(h == "while") && !(h == "inner")
/-- a simple statement, a test: small data -/
def okS (h : Str) (xs : List PD) : Bool := hd h && (PyData.tuple (.str h :: xs)).canLay0 && decide ((PyData.tuple (.str h :: xs)).depth ≤ 5) && (PyData.tuple (.str h :: xs)).showable && decide ((PyData.tuple (.str h :: xs)).shown.length ≤ 190)
def okT (t : PD) : Bool := t.canLay0 && decide (t.depth ≤ 4) && t.showable && decide (t.shown.length ≤ 150)
def okB : Blk → Bool
  | .nil => true
  | .simp h xs r => okS h xs && okB r
  | .inner r => okB r
  | .ife t a b r => okT t && okB a && okB b && okB r
  | .whl t a r => okT t && okB a && okB r
theorem okS_hd {h : Str} {xs : List PD} (e : okS h xs = true) : hd h = true := by
  unfold okS at e
  simp only [Bool.and_eq_true] at e
  exact e.1.1.1.1
def hasI : Blk → Bool
  | .nil => false
  | .simp _ _ r => hasI r
  | .inner _ => true
  | .ife _ a b r => hasI a || hasI b || hasI r
  | .whl _ a r => hasI a || hasI r
/-- how many statements there are -/
def wt : Blk → Nat
  | .nil => 0
  | .simp _ _ r => 1 + wt r
  | .inner r => 1 + wt r
  | .ife _ a b r => 1 + wt a + wt b + wt r
  | .whl _ a r => 1 + wt a + wt r
def num : Blk → List PD
  | .nil => []
  | .simp h xs r => .tuple (.str h :: xs) :: num r
  | .inner r => inn :: num r
  | .ife t a b r => .tuple [.str "if", t, .tuple (enc a), .tuple (enc b)] :: (num a ++ num b ++ num r)
  | .whl t a r => .tuple [.str "while", t, .tuple (enc a)] :: (num a ++ num r)
theorem num_len : ∀ b, (num b).length = wt b
  | .nil => rfl
  | .simp _ _ r => by simp only [num, wt, List.length_cons, num_len r]; omega
  | .inner r => by simp only [num, wt, List.length_cons, num_len r]; omega
  | .ife _ a b r => by simp only [num, wt, List.length_cons, List.length_append, num_len a, num_len b, num_len r]; omega
  | .whl _ a r => by simp only [num, wt, List.length_cons, List.length_append, num_len a, num_len r]; omega
theorem enc_len : ∀ b, (enc b).length ≤ wt b
  | .nil => Nat.le_refl 0
  | .simp _ _ r => by have := enc_len r; simp only [enc, wt, List.length_cons]; omega
  | .inner r => by have := enc_len r; simp only [enc, wt, List.length_cons]; omega
  | .ife _ a b r => by have := enc_len r; simp only [enc, wt, List.length_cons]; omega
  | .whl _ a r => by have := enc_len r; simp only [enc, wt, List.length_cons]; omega
def gl0 : Nat → Option PD := fun _ => none
theorem slv : sizeLine = 16777216 := rfl
theorem run0 (k : Nat) (as : DEn) : fnK rs gl0 (k + 1) 0 as = runF ⟨fnK rs gl0 k, gl0⟩ 1 1 ir_parts_of as := rfl
theorem run1 (k : Nat) (as : DEn) : fnK rs gl0 (k + 1) 1 as = runF ⟨fnK rs gl0 k, gl0⟩ 1 3 ir_has_inner as := rfl
theorem run2 (k : Nat) (as : DEn) : fnK rs gl0 (k + 1) 2 as = runF ⟨fnK rs gl0 k, gl0⟩ 1 1 ir_with_inner as := rfl
theorem run3 (k : Nat) (as : DEn) : fnK rs gl0 (k + 1) 3 as = runF ⟨fnK rs gl0 k, gl0⟩ 2 4 ir_fill as := rfl
theorem run4 (k : Nat) (as : DEn) : fnK rs gl0 (k + 1) 4 as = runF ⟨fnK rs gl0 k, gl0⟩ 2 4 ir__fill_parts as := rfl
theorem run5 (k : Nat) (as : DEn) : fnK rs gl0 (k + 1) 5 as = runF ⟨fnK rs gl0 k, gl0⟩ 1 2 ir_numbered as := rfl
theorem run6 (k : Nat) (as : DEn) : fnK rs gl0 (k + 1) 6 as = runF ⟨fnK rs gl0 k, gl0⟩ 2 4 ir__add_statements as := rfl
theorem run7 (k : Nat) (as : DEn) : fnK rs gl0 (k + 1) 7 as = runF ⟨fnK rs gl0 k, gl0⟩ 1 2 ir_behind_table as := rfl
theorem run8 (k : Nat) (as : DEn) : fnK rs gl0 (k + 1) 8 as = runF ⟨fnK rs gl0 k, gl0⟩ 2 8 ir__add_numbers as := rfl
theorem run9 (k : Nat) (as : DEn) : fnK rs gl0 (k + 1) 9 as = runF ⟨fnK rs gl0 k, gl0⟩ 2 3 ir_behind as := rfl
theorem run10 (k : Nat) (as : DEn) : fnK rs gl0 (k + 1) 10 as = runF ⟨fnK rs gl0 k, gl0⟩ 1 4 ir_depth_of as := rfl
theorem hd_if {h : Str} (e : hd h = true) : (h == "if") = false := by
  unfold hd at e; cases z : h == "if" <;> simp_all
theorem hd_while {h : Str} (e : hd h = true) : (h == "while") = false := by
  unfold hd at e; cases z : h == "while" <;> simp_all
theorem hd_inner {h : Str} (e : hd h = true) : (h == "inner") = false := by
  unfold hd at e; cases z : h == "inner" <;> simp_all
theorem ii : (("inner" : Str) == "if") = false := by decide
theorem iw : (("inner" : Str) == "while") = false := by decide
theorem fi : (("if" : Str) == "inner") = false := by decide
theorem fw : (("if" : Str) == "while") = false := by decide
theorem wi : (("while" : Str) == "inner") = false := by decide
theorem wf : (("while" : Str) == "if") = false := by decide
theorem at0 {α : Type} (a : α) (r : List α) : atI (a :: r) 0 = some a := by
  unfold atI ixN
  rw [if_pos (by omega), if_pos (by simp only [List.length_cons]; omega)]
  rfl
theorem cut4 (a b c d : PD) : cutD [a, b, c, d] (some 2) none = [c, d] := rfl
theorem cut3 (a b c : PD) : cutD [a, b, c] (some 2) none = [c] := rfl
theorem cut4' (a b c d : PD) : cutD [a, b, c, d] none (some 2) = [a, b] := rfl
theorem cut3' (a b c : PD) : cutD [a, b, c] none (some 2) = [a, b] := rfl
theorem parts_simp (k : Nat) {h : Str} (e : hd h = true) (xs : List PD) : fnK rs gl0 (k + 1) 0 [.val (.tuple (.str h :: xs))] = some (.val (.tuple []), [.un]) := by
  rw [run0]
  simp only [runF, tagA, outsA, oXt_non, oXf_non, oXt_bl, oXf_bl, oXt_int, oXf_int, oXt_str, oXf_str, oXt_glb, oXf_glb, oXt_bin, oXf_bin, oXt_neg, oXf_neg, oXt_not, oXf_not, oXt_cmp, oXf_cmp, oXt_chain, oXf_chain, oXt_and, oXf_and, oXt_or, oXf_or, oXt_ife, oXf_ife, oXt_sub, oXf_sub, oXt_slc, oXf_slc, oXt_rev, oXf_rev, oXt_tup, oXf_tup, oXt_lst, oXf_lst, oXt_call, oXf_call, oXt_prim, oXf_prim, oXt_isi, oXf_isi, oXt_comp, oXf_comp, oXt_app, oXf_app, oXt_ext, oXf_ext, oXt_pop, oXf_pop, oXf_var, oXt_var, oX_lend, eX_var, eX_non, eX_bl, eX_int, eX_str, eX_glb, eX_bin, eX_neg, eX_not, eX_cmp, eX_chain, eX_and, eX_or, eX_ife, eX_sub, eX_slc, eX_rev, eX_tup, eX_lst, eX_call, eX_prim, eX_isi, eX_comp, eX_app, eX_ext, eX_pop, eP_nil, eP_cons, eL_nil, eL_cons, eI_rng1, eI_rng2, eI_cons, eS_nil, eS_cons, eS_set, eS_unp, eS_sti, eS_ex, eS_ifs, eS_whl, eS_fors, eS_brk, eS_cnt, eS_pas, eS_retv, eS_ret_non, eS_ret_bl, eS_ret_int, eS_ret_str, eS_ret_glb, eS_ret_bin, eS_ret_neg, eS_ret_not, eS_ret_cmp, eS_ret_chain, eS_ret_and, eS_ret_or, eS_ret_ife, eS_ret_sub, eS_ret_slc, eS_ret_rev, eS_ret_tup, eS_ret_lst, eS_ret_call, eS_ret_prim, eS_ret_isi, eS_ret_comp, eS_ret_app, eS_ret_ext, eS_ret_pop, lpS_nil, lpS_cons, cmS_nil, cmS_cons, rdO, rdS, rdAll, frz, valsOf, argsOf, slotsOf, putBack, subD, slD, prD, seqD, asg, asgs, bopD, copD, eqD, truS, List.mapIdx_cons, List.mapIdx_nil, List.getElem?_cons_zero, List.getElem?_cons_succ, List.set_cons_zero, List.set_cons_succ, List.length_cons, List.length_nil, List.cons_append, List.nil_append, List.replicate_zero, List.replicate_succ, List.append_nil, List.nodup_nil, List.nodup_cons, List.not_mem_nil, Nat.sub_self, Nat.add_one_sub_one, Nat.zero_lt_succ, if_true, if_false, eq_self_iff_true, reduceIte, reduceCtorEq, Nat.zero_le, slv, not_false_eq_true, and_self, and_true, true_and, List.singleton_append, Bool.not_true, Bool.not_false, List.foldl_nil, ite_true, ite_false, beq_self_eq_true, Nat.reduceAdd, Nat.reduceLT, Nat.reduceLeDiff, Nat.reduceSub, Nat.reduceEqDiff, Nat.reduceMul, Int.reduceAdd, Int.reduceLT, Int.reduceLE, Int.reduceNeg, Int.reduceEq, Int.reduceSub, decide_true, decide_false, decide_eq_true_eq, cond_true, cond_false, at0, hd_if e, hd_while e]
theorem parts_inn (k : Nat) : fnK rs gl0 (k + 1) 0 [.val inn] = some (.val (.tuple []), [.un]) := by
  rw [run0]
  simp only [inn, runF, tagA, outsA, oXt_non, oXf_non, oXt_bl, oXf_bl, oXt_int, oXf_int, oXt_str, oXf_str, oXt_glb, oXf_glb, oXt_bin, oXf_bin, oXt_neg, oXf_neg, oXt_not, oXf_not, oXt_cmp, oXf_cmp, oXt_chain, oXf_chain, oXt_and, oXf_and, oXt_or, oXf_or, oXt_ife, oXf_ife, oXt_sub, oXf_sub, oXt_slc, oXf_slc, oXt_rev, oXf_rev, oXt_tup, oXf_tup, oXt_lst, oXf_lst, oXt_call, oXf_call, oXt_prim, oXf_prim, oXt_isi, oXf_isi, oXt_comp, oXf_comp, oXt_app, oXf_app, oXt_ext, oXf_ext, oXt_pop, oXf_pop, oXf_var, oXt_var, oX_lend, eX_var, eX_non, eX_bl, eX_int, eX_str, eX_glb, eX_bin, eX_neg, eX_not, eX_cmp, eX_chain, eX_and, eX_or, eX_ife, eX_sub, eX_slc, eX_rev, eX_tup, eX_lst, eX_call, eX_prim, eX_isi, eX_comp, eX_app, eX_ext, eX_pop, eP_nil, eP_cons, eL_nil, eL_cons, eI_rng1, eI_rng2, eI_cons, eS_nil, eS_cons, eS_set, eS_unp, eS_sti, eS_ex, eS_ifs, eS_whl, eS_fors, eS_brk, eS_cnt, eS_pas, eS_retv, eS_ret_non, eS_ret_bl, eS_ret_int, eS_ret_str, eS_ret_glb, eS_ret_bin, eS_ret_neg, eS_ret_not, eS_ret_cmp, eS_ret_chain, eS_ret_and, eS_ret_or, eS_ret_ife, eS_ret_sub, eS_ret_slc, eS_ret_rev, eS_ret_tup, eS_ret_lst, eS_ret_call, eS_ret_prim, eS_ret_isi, eS_ret_comp, eS_ret_app, eS_ret_ext, eS_ret_pop, lpS_nil, lpS_cons, cmS_nil, cmS_cons, rdO, rdS, rdAll, frz, valsOf, argsOf, slotsOf, putBack, subD, slD, prD, seqD, asg, asgs, bopD, copD, eqD, truS, List.mapIdx_cons, List.mapIdx_nil, List.getElem?_cons_zero, List.getElem?_cons_succ, List.set_cons_zero, List.set_cons_succ, List.length_cons, List.length_nil, List.cons_append, List.nil_append, List.replicate_zero, List.replicate_succ, List.append_nil, List.nodup_nil, List.nodup_cons, List.not_mem_nil, Nat.sub_self, Nat.add_one_sub_one, Nat.zero_lt_succ, if_true, if_false, eq_self_iff_true, reduceIte, reduceCtorEq, Nat.zero_le, slv, not_false_eq_true, and_self, and_true, true_and, List.singleton_append, Bool.not_true, Bool.not_false, List.foldl_nil, ite_true, ite_false, beq_self_eq_true, Nat.reduceAdd, Nat.reduceLT, Nat.reduceLeDiff, Nat.reduceSub, Nat.reduceEqDiff, Nat.reduceMul, Int.reduceAdd, Int.reduceLT, Int.reduceLE, Int.reduceNeg, Int.reduceEq, Int.reduceSub, decide_true, decide_false, decide_eq_true_eq, cond_true, cond_false, at0, ii, iw]
theorem parts_if (k : Nat) (t a b : PD) : fnK rs gl0 (k + 1) 0 [.val (.tuple [.str "if", t, a, b])] = some (.val (.tuple [a, b]), [.un]) := by
  rw [run0]
  simp only [runF, tagA, outsA, oXt_non, oXf_non, oXt_bl, oXf_bl, oXt_int, oXf_int, oXt_str, oXf_str, oXt_glb, oXf_glb, oXt_bin, oXf_bin, oXt_neg, oXf_neg, oXt_not, oXf_not, oXt_cmp, oXf_cmp, oXt_chain, oXf_chain, oXt_and, oXf_and, oXt_or, oXf_or, oXt_ife, oXf_ife, oXt_sub, oXf_sub, oXt_slc, oXf_slc, oXt_rev, oXf_rev, oXt_tup, oXf_tup, oXt_lst, oXf_lst, oXt_call, oXf_call, oXt_prim, oXf_prim, oXt_isi, oXf_isi, oXt_comp, oXf_comp, oXt_app, oXf_app, oXt_ext, oXf_ext, oXt_pop, oXf_pop, oXf_var, oXt_var, oX_lend, eX_var, eX_non, eX_bl, eX_int, eX_str, eX_glb, eX_bin, eX_neg, eX_not, eX_cmp, eX_chain, eX_and, eX_or, eX_ife, eX_sub, eX_slc, eX_rev, eX_tup, eX_lst, eX_call, eX_prim, eX_isi, eX_comp, eX_app, eX_ext, eX_pop, eP_nil, eP_cons, eL_nil, eL_cons, eI_rng1, eI_rng2, eI_cons, eS_nil, eS_cons, eS_set, eS_unp, eS_sti, eS_ex, eS_ifs, eS_whl, eS_fors, eS_brk, eS_cnt, eS_pas, eS_retv, eS_ret_non, eS_ret_bl, eS_ret_int, eS_ret_str, eS_ret_glb, eS_ret_bin, eS_ret_neg, eS_ret_not, eS_ret_cmp, eS_ret_chain, eS_ret_and, eS_ret_or, eS_ret_ife, eS_ret_sub, eS_ret_slc, eS_ret_rev, eS_ret_tup, eS_ret_lst, eS_ret_call, eS_ret_prim, eS_ret_isi, eS_ret_comp, eS_ret_app, eS_ret_ext, eS_ret_pop, lpS_nil, lpS_cons, cmS_nil, cmS_cons, rdO, rdS, rdAll, frz, valsOf, argsOf, slotsOf, putBack, subD, slD, prD, seqD, asg, asgs, bopD, copD, eqD, truS, List.mapIdx_cons, List.mapIdx_nil, List.getElem?_cons_zero, List.getElem?_cons_succ, List.set_cons_zero, List.set_cons_succ, List.length_cons, List.length_nil, List.cons_append, List.nil_append, List.replicate_zero, List.replicate_succ, List.append_nil, List.nodup_nil, List.nodup_cons, List.not_mem_nil, Nat.sub_self, Nat.add_one_sub_one, Nat.zero_lt_succ, if_true, if_false, eq_self_iff_true, reduceIte, reduceCtorEq, Nat.zero_le, slv, not_false_eq_true, and_self, and_true, true_and, List.singleton_append, Bool.not_true, Bool.not_false, List.foldl_nil, ite_true, ite_false, beq_self_eq_true, Nat.reduceAdd, Nat.reduceLT, Nat.reduceLeDiff, Nat.reduceSub, Nat.reduceEqDiff, Nat.reduceMul, Int.reduceAdd, Int.reduceLT, Int.reduceLE, Int.reduceNeg, Int.reduceEq, Int.reduceSub, decide_true, decide_false, decide_eq_true_eq, cond_true, cond_false, at0, cut4]
theorem parts_while (k : Nat) (t a : PD) : fnK rs gl0 (k + 1) 0 [.val (.tuple [.str "while", t, a])] = some (.val (.tuple [a]), [.un]) := by
  rw [run0]
  simp only [runF, tagA, outsA, oXt_non, oXf_non, oXt_bl, oXf_bl, oXt_int, oXf_int, oXt_str, oXf_str, oXt_glb, oXf_glb, oXt_bin, oXf_bin, oXt_neg, oXf_neg, oXt_not, oXf_not, oXt_cmp, oXf_cmp, oXt_chain, oXf_chain, oXt_and, oXf_and, oXt_or, oXf_or, oXt_ife, oXf_ife, oXt_sub, oXf_sub, oXt_slc, oXf_slc, oXt_rev, oXf_rev, oXt_tup, oXf_tup, oXt_lst, oXf_lst, oXt_call, oXf_call, oXt_prim, oXf_prim, oXt_isi, oXf_isi, oXt_comp, oXf_comp, oXt_app, oXf_app, oXt_ext, oXf_ext, oXt_pop, oXf_pop, oXf_var, oXt_var, oX_lend, eX_var, eX_non, eX_bl, eX_int, eX_str, eX_glb, eX_bin, eX_neg, eX_not, eX_cmp, eX_chain, eX_and, eX_or, eX_ife, eX_sub, eX_slc, eX_rev, eX_tup, eX_lst, eX_call, eX_prim, eX_isi, eX_comp, eX_app, eX_ext, eX_pop, eP_nil, eP_cons, eL_nil, eL_cons, eI_rng1, eI_rng2, eI_cons, eS_nil, eS_cons, eS_set, eS_unp, eS_sti, eS_ex, eS_ifs, eS_whl, eS_fors, eS_brk, eS_cnt, eS_pas, eS_retv, eS_ret_non, eS_ret_bl, eS_ret_int, eS_ret_str, eS_ret_glb, eS_ret_bin, eS_ret_neg, eS_ret_not, eS_ret_cmp, eS_ret_chain, eS_ret_and, eS_ret_or, eS_ret_ife, eS_ret_sub, eS_ret_slc, eS_ret_rev, eS_ret_tup, eS_ret_lst, eS_ret_call, eS_ret_prim, eS_ret_isi, eS_ret_comp, eS_ret_app, eS_ret_ext, eS_ret_pop, lpS_nil, lpS_cons, cmS_nil, cmS_cons, rdO, rdS, rdAll, frz, valsOf, argsOf, slotsOf, putBack, subD, slD, prD, seqD, asg, asgs, bopD, copD, eqD, truS, List.mapIdx_cons, List.mapIdx_nil, List.getElem?_cons_zero, List.getElem?_cons_succ, List.set_cons_zero, List.set_cons_succ, List.length_cons, List.length_nil, List.cons_append, List.nil_append, List.replicate_zero, List.replicate_succ, List.append_nil, List.nodup_nil, List.nodup_cons, List.not_mem_nil, Nat.sub_self, Nat.add_one_sub_one, Nat.zero_lt_succ, if_true, if_false, eq_self_iff_true, reduceIte, reduceCtorEq, Nat.zero_le, slv, not_false_eq_true, and_self, and_true, true_and, List.singleton_append, Bool.not_true, Bool.not_false, List.foldl_nil, ite_true, ite_false, beq_self_eq_true, Nat.reduceAdd, Nat.reduceLT, Nat.reduceLeDiff, Nat.reduceSub, Nat.reduceEqDiff, Nat.reduceMul, Int.reduceAdd, Int.reduceLT, Int.reduceLE, Int.reduceNeg, Int.reduceEq, Int.reduceSub, decide_true, decide_false, decide_eq_true_eq, cond_true, cond_false, at0, cut3, wf]
theorem hasI_ok : ∀ (k : Nat) (b : Blk), okB b = true → dep b ≤ k → fnK rs gl0 (k + 1) 1 [.val (.tuple (enc b))] = some (.val (.bool (hasI b)), [.un])
  | 0, b, _, h => absurd (dep_pos b) (by omega)
  | k + 1, b, ok, hk => by
    have L : ∀ b z s1 s2, okB b = true → dep b ≤ k + 1 → ∃ s1' s2', lpS ⟨fnK rs gl0 (k + 1), gl0⟩ (.var 1) (.cons (.ifs (.cmp .eq (.sub (.var 1) (.int 0)) (.str "inner")) (.cons (.ret (.bl true)) .nil) .nil) (.cons (.fors (.var 2) (.cons (.call 0 (.cons (.var 1) .nil)) .nil) (.cons (.ifs (.call 1 (.cons (.var 2) .nil)) (.cons (.ret (.bl true)) .nil) .nil) .nil)) .nil)) (enc b) [z, s1, s2] = some (cond (hasI b) (.rt (.val (.bool true)) [z, s1', s2']) (.nx [z, s1', s2'])) := by
      intro b
      induction b with
      | nil => intro z s1 s2 _ _; exact ⟨s1, s2, rfl⟩
      | simp h xs r ih =>
        intro z s1 s2 ok hk
        simp only [okB, Bool.and_eq_true] at ok
        obtain ⟨u, v, e⟩ := ih z (.val (.tuple (.str h :: xs))) s2 ok.2 hk
        exact ⟨u, v, by simp only [enc, hasI, runF, tagA, outsA, oXt_non, oXf_non, oXt_bl, oXf_bl, oXt_int, oXf_int, oXt_str, oXf_str, oXt_glb, oXf_glb, oXt_bin, oXf_bin, oXt_neg, oXf_neg, oXt_not, oXf_not, oXt_cmp, oXf_cmp, oXt_chain, oXf_chain, oXt_and, oXf_and, oXt_or, oXf_or, oXt_ife, oXf_ife, oXt_sub, oXf_sub, oXt_slc, oXf_slc, oXt_rev, oXf_rev, oXt_tup, oXf_tup, oXt_lst, oXf_lst, oXt_call, oXf_call, oXt_prim, oXf_prim, oXt_isi, oXf_isi, oXt_comp, oXf_comp, oXt_app, oXf_app, oXt_ext, oXf_ext, oXt_pop, oXf_pop, oXf_var, oXt_var, oX_lend, eX_var, eX_non, eX_bl, eX_int, eX_str, eX_glb, eX_bin, eX_neg, eX_not, eX_cmp, eX_chain, eX_and, eX_or, eX_ife, eX_sub, eX_slc, eX_rev, eX_tup, eX_lst, eX_call, eX_prim, eX_isi, eX_comp, eX_app, eX_ext, eX_pop, eP_nil, eP_cons, eL_nil, eL_cons, eI_rng1, eI_rng2, eI_cons, eS_nil, eS_cons, eS_set, eS_unp, eS_sti, eS_ex, eS_ifs, eS_whl, eS_fors, eS_brk, eS_cnt, eS_pas, eS_retv, eS_ret_non, eS_ret_bl, eS_ret_int, eS_ret_str, eS_ret_glb, eS_ret_bin, eS_ret_neg, eS_ret_not, eS_ret_cmp, eS_ret_chain, eS_ret_and, eS_ret_or, eS_ret_ife, eS_ret_sub, eS_ret_slc, eS_ret_rev, eS_ret_tup, eS_ret_lst, eS_ret_call, eS_ret_prim, eS_ret_isi, eS_ret_comp, eS_ret_app, eS_ret_ext, eS_ret_pop, lpS_nil, lpS_cons, cmS_nil, cmS_cons, rdO, rdS, rdAll, frz, valsOf, argsOf, slotsOf, putBack, subD, slD, prD, seqD, asg, asgs, bopD, copD, eqD, truS, List.mapIdx_cons, List.mapIdx_nil, List.getElem?_cons_zero, List.getElem?_cons_succ, List.set_cons_zero, List.set_cons_succ, List.length_cons, List.length_nil, List.cons_append, List.nil_append, List.replicate_zero, List.replicate_succ, List.append_nil, List.nodup_nil, List.nodup_cons, List.not_mem_nil, Nat.sub_self, Nat.add_one_sub_one, Nat.zero_lt_succ, if_true, if_false, eq_self_iff_true, reduceIte, reduceCtorEq, Nat.zero_le, slv, not_false_eq_true, and_self, and_true, true_and, List.singleton_append, Bool.not_true, Bool.not_false, List.foldl_nil, ite_true, ite_false, beq_self_eq_true, Nat.reduceAdd, Nat.reduceLT, Nat.reduceLeDiff, Nat.reduceSub, Nat.reduceEqDiff, Nat.reduceMul, Int.reduceAdd, Int.reduceLT, Int.reduceLE, Int.reduceNeg, Int.reduceEq, Int.reduceSub, decide_true, decide_false, decide_eq_true_eq, cond_true, cond_false, at0, hd_inner (okS_hd ok.1), parts_simp k (okS_hd ok.1), e]⟩
      | inner r ih =>
        intro z s1 s2 ok hk
        exact ⟨.val inn, s2, by simp only [enc, hasI, runF, tagA, outsA, oXt_non, oXf_non, oXt_bl, oXf_bl, oXt_int, oXf_int, oXt_str, oXf_str, oXt_glb, oXf_glb, oXt_bin, oXf_bin, oXt_neg, oXf_neg, oXt_not, oXf_not, oXt_cmp, oXf_cmp, oXt_chain, oXf_chain, oXt_and, oXf_and, oXt_or, oXf_or, oXt_ife, oXf_ife, oXt_sub, oXf_sub, oXt_slc, oXf_slc, oXt_rev, oXf_rev, oXt_tup, oXf_tup, oXt_lst, oXf_lst, oXt_call, oXf_call, oXt_prim, oXf_prim, oXt_isi, oXf_isi, oXt_comp, oXf_comp, oXt_app, oXf_app, oXt_ext, oXf_ext, oXt_pop, oXf_pop, oXf_var, oXt_var, oX_lend, eX_var, eX_non, eX_bl, eX_int, eX_str, eX_glb, eX_bin, eX_neg, eX_not, eX_cmp, eX_chain, eX_and, eX_or, eX_ife, eX_sub, eX_slc, eX_rev, eX_tup, eX_lst, eX_call, eX_prim, eX_isi, eX_comp, eX_app, eX_ext, eX_pop, eP_nil, eP_cons, eL_nil, eL_cons, eI_rng1, eI_rng2, eI_cons, eS_nil, eS_cons, eS_set, eS_unp, eS_sti, eS_ex, eS_ifs, eS_whl, eS_fors, eS_brk, eS_cnt, eS_pas, eS_retv, eS_ret_non, eS_ret_bl, eS_ret_int, eS_ret_str, eS_ret_glb, eS_ret_bin, eS_ret_neg, eS_ret_not, eS_ret_cmp, eS_ret_chain, eS_ret_and, eS_ret_or, eS_ret_ife, eS_ret_sub, eS_ret_slc, eS_ret_rev, eS_ret_tup, eS_ret_lst, eS_ret_call, eS_ret_prim, eS_ret_isi, eS_ret_comp, eS_ret_app, eS_ret_ext, eS_ret_pop, lpS_nil, lpS_cons, cmS_nil, cmS_cons, rdO, rdS, rdAll, frz, valsOf, argsOf, slotsOf, putBack, subD, slD, prD, seqD, asg, asgs, bopD, copD, eqD, truS, List.mapIdx_cons, List.mapIdx_nil, List.getElem?_cons_zero, List.getElem?_cons_succ, List.set_cons_zero, List.set_cons_succ, List.length_cons, List.length_nil, List.cons_append, List.nil_append, List.replicate_zero, List.replicate_succ, List.append_nil, List.nodup_nil, List.nodup_cons, List.not_mem_nil, Nat.sub_self, Nat.add_one_sub_one, Nat.zero_lt_succ, if_true, if_false, eq_self_iff_true, reduceIte, reduceCtorEq, Nat.zero_le, slv, not_false_eq_true, and_self, and_true, true_and, List.singleton_append, Bool.not_true, Bool.not_false, List.foldl_nil, ite_true, ite_false, beq_self_eq_true, Nat.reduceAdd, Nat.reduceLT, Nat.reduceLeDiff, Nat.reduceSub, Nat.reduceEqDiff, Nat.reduceMul, Int.reduceAdd, Int.reduceLT, Int.reduceLE, Int.reduceNeg, Int.reduceEq, Int.reduceSub, decide_true, decide_false, decide_eq_true_eq, cond_true, cond_false, at0, inn]⟩
      | ife t a b r iha ihb ih =>
        intro z s1 s2 ok hk
        simp only [okB, Bool.and_eq_true] at ok
        simp only [dep] at hk
        have ea := hasI_ok k a ok.1.1.2 (by omega)
        have eb := hasI_ok k b ok.1.2 (by omega)
        obtain ⟨u, v, e⟩ := ih z (.val (.tuple [.str "if", t, .tuple (enc a), .tuple (enc b)])) (.val (.tuple (enc b))) ok.2 (by omega)
        cases ha : hasI a with
        | true => exact ⟨.val (.tuple [.str "if", t, .tuple (enc a), .tuple (enc b)]), .val (.tuple (enc a)), by simp only [enc, hasI, runF, tagA, outsA, oXt_non, oXf_non, oXt_bl, oXf_bl, oXt_int, oXf_int, oXt_str, oXf_str, oXt_glb, oXf_glb, oXt_bin, oXf_bin, oXt_neg, oXf_neg, oXt_not, oXf_not, oXt_cmp, oXf_cmp, oXt_chain, oXf_chain, oXt_and, oXf_and, oXt_or, oXf_or, oXt_ife, oXf_ife, oXt_sub, oXf_sub, oXt_slc, oXf_slc, oXt_rev, oXf_rev, oXt_tup, oXf_tup, oXt_lst, oXf_lst, oXt_call, oXf_call, oXt_prim, oXf_prim, oXt_isi, oXf_isi, oXt_comp, oXf_comp, oXt_app, oXf_app, oXt_ext, oXf_ext, oXt_pop, oXf_pop, oXf_var, oXt_var, oX_lend, eX_var, eX_non, eX_bl, eX_int, eX_str, eX_glb, eX_bin, eX_neg, eX_not, eX_cmp, eX_chain, eX_and, eX_or, eX_ife, eX_sub, eX_slc, eX_rev, eX_tup, eX_lst, eX_call, eX_prim, eX_isi, eX_comp, eX_app, eX_ext, eX_pop, eP_nil, eP_cons, eL_nil, eL_cons, eI_rng1, eI_rng2, eI_cons, eS_nil, eS_cons, eS_set, eS_unp, eS_sti, eS_ex, eS_ifs, eS_whl, eS_fors, eS_brk, eS_cnt, eS_pas, eS_retv, eS_ret_non, eS_ret_bl, eS_ret_int, eS_ret_str, eS_ret_glb, eS_ret_bin, eS_ret_neg, eS_ret_not, eS_ret_cmp, eS_ret_chain, eS_ret_and, eS_ret_or, eS_ret_ife, eS_ret_sub, eS_ret_slc, eS_ret_rev, eS_ret_tup, eS_ret_lst, eS_ret_call, eS_ret_prim, eS_ret_isi, eS_ret_comp, eS_ret_app, eS_ret_ext, eS_ret_pop, lpS_nil, lpS_cons, cmS_nil, cmS_cons, rdO, rdS, rdAll, frz, valsOf, argsOf, slotsOf, putBack, subD, slD, prD, seqD, asg, asgs, bopD, copD, eqD, truS, List.mapIdx_cons, List.mapIdx_nil, List.getElem?_cons_zero, List.getElem?_cons_succ, List.set_cons_zero, List.set_cons_succ, List.length_cons, List.length_nil, List.cons_append, List.nil_append, List.replicate_zero, List.replicate_succ, List.append_nil, List.nodup_nil, List.nodup_cons, List.not_mem_nil, Nat.sub_self, Nat.add_one_sub_one, Nat.zero_lt_succ, if_true, if_false, eq_self_iff_true, reduceIte, reduceCtorEq, Nat.zero_le, slv, not_false_eq_true, and_self, and_true, true_and, List.singleton_append, Bool.not_true, Bool.not_false, List.foldl_nil, ite_true, ite_false, beq_self_eq_true, Nat.reduceAdd, Nat.reduceLT, Nat.reduceLeDiff, Nat.reduceSub, Nat.reduceEqDiff, Nat.reduceMul, Int.reduceAdd, Int.reduceLT, Int.reduceLE, Int.reduceNeg, Int.reduceEq, Int.reduceSub, decide_true, decide_false, decide_eq_true_eq, cond_true, cond_false, at0, fi, parts_if, ea, ha, Bool.true_or]⟩
        | false =>
          cases hb : hasI b with
          | true => exact ⟨.val (.tuple [.str "if", t, .tuple (enc a), .tuple (enc b)]), .val (.tuple (enc b)), by simp only [enc, hasI, runF, tagA, outsA, oXt_non, oXf_non, oXt_bl, oXf_bl, oXt_int, oXf_int, oXt_str, oXf_str, oXt_glb, oXf_glb, oXt_bin, oXf_bin, oXt_neg, oXf_neg, oXt_not, oXf_not, oXt_cmp, oXf_cmp, oXt_chain, oXf_chain, oXt_and, oXf_and, oXt_or, oXf_or, oXt_ife, oXf_ife, oXt_sub, oXf_sub, oXt_slc, oXf_slc, oXt_rev, oXf_rev, oXt_tup, oXf_tup, oXt_lst, oXf_lst, oXt_call, oXf_call, oXt_prim, oXf_prim, oXt_isi, oXf_isi, oXt_comp, oXf_comp, oXt_app, oXf_app, oXt_ext, oXf_ext, oXt_pop, oXf_pop, oXf_var, oXt_var, oX_lend, eX_var, eX_non, eX_bl, eX_int, eX_str, eX_glb, eX_bin, eX_neg, eX_not, eX_cmp, eX_chain, eX_and, eX_or, eX_ife, eX_sub, eX_slc, eX_rev, eX_tup, eX_lst, eX_call, eX_prim, eX_isi, eX_comp, eX_app, eX_ext, eX_pop, eP_nil, eP_cons, eL_nil, eL_cons, eI_rng1, eI_rng2, eI_cons, eS_nil, eS_cons, eS_set, eS_unp, eS_sti, eS_ex, eS_ifs, eS_whl, eS_fors, eS_brk, eS_cnt, eS_pas, eS_retv, eS_ret_non, eS_ret_bl, eS_ret_int, eS_ret_str, eS_ret_glb, eS_ret_bin, eS_ret_neg, eS_ret_not, eS_ret_cmp, eS_ret_chain, eS_ret_and, eS_ret_or, eS_ret_ife, eS_ret_sub, eS_ret_slc, eS_ret_rev, eS_ret_tup, eS_ret_lst, eS_ret_call, eS_ret_prim, eS_ret_isi, eS_ret_comp, eS_ret_app, eS_ret_ext, eS_ret_pop, lpS_nil, lpS_cons, cmS_nil, cmS_cons, rdO, rdS, rdAll, frz, valsOf, argsOf, slotsOf, putBack, subD, slD, prD, seqD, asg, asgs, bopD, copD, eqD, truS, List.mapIdx_cons, List.mapIdx_nil, List.getElem?_cons_zero, List.getElem?_cons_succ, List.set_cons_zero, List.set_cons_succ, List.length_cons, List.length_nil, List.cons_append, List.nil_append, List.replicate_zero, List.replicate_succ, List.append_nil, List.nodup_nil, List.nodup_cons, List.not_mem_nil, Nat.sub_self, Nat.add_one_sub_one, Nat.zero_lt_succ, if_true, if_false, eq_self_iff_true, reduceIte, reduceCtorEq, Nat.zero_le, slv, not_false_eq_true, and_self, and_true, true_and, List.singleton_append, Bool.not_true, Bool.not_false, List.foldl_nil, ite_true, ite_false, beq_self_eq_true, Nat.reduceAdd, Nat.reduceLT, Nat.reduceLeDiff, Nat.reduceSub, Nat.reduceEqDiff, Nat.reduceMul, Int.reduceAdd, Int.reduceLT, Int.reduceLE, Int.reduceNeg, Int.reduceEq, Int.reduceSub, decide_true, decide_false, decide_eq_true_eq, cond_true, cond_false, at0, fi, parts_if, ea, eb, ha, hb, Bool.true_or, Bool.false_or]⟩
          | false => exact ⟨u, v, by simp only [enc, hasI, runF, tagA, outsA, oXt_non, oXf_non, oXt_bl, oXf_bl, oXt_int, oXf_int, oXt_str, oXf_str, oXt_glb, oXf_glb, oXt_bin, oXf_bin, oXt_neg, oXf_neg, oXt_not, oXf_not, oXt_cmp, oXf_cmp, oXt_chain, oXf_chain, oXt_and, oXf_and, oXt_or, oXf_or, oXt_ife, oXf_ife, oXt_sub, oXf_sub, oXt_slc, oXf_slc, oXt_rev, oXf_rev, oXt_tup, oXf_tup, oXt_lst, oXf_lst, oXt_call, oXf_call, oXt_prim, oXf_prim, oXt_isi, oXf_isi, oXt_comp, oXf_comp, oXt_app, oXf_app, oXt_ext, oXf_ext, oXt_pop, oXf_pop, oXf_var, oXt_var, oX_lend, eX_var, eX_non, eX_bl, eX_int, eX_str, eX_glb, eX_bin, eX_neg, eX_not, eX_cmp, eX_chain, eX_and, eX_or, eX_ife, eX_sub, eX_slc, eX_rev, eX_tup, eX_lst, eX_call, eX_prim, eX_isi, eX_comp, eX_app, eX_ext, eX_pop, eP_nil, eP_cons, eL_nil, eL_cons, eI_rng1, eI_rng2, eI_cons, eS_nil, eS_cons, eS_set, eS_unp, eS_sti, eS_ex, eS_ifs, eS_whl, eS_fors, eS_brk, eS_cnt, eS_pas, eS_retv, eS_ret_non, eS_ret_bl, eS_ret_int, eS_ret_str, eS_ret_glb, eS_ret_bin, eS_ret_neg, eS_ret_not, eS_ret_cmp, eS_ret_chain, eS_ret_and, eS_ret_or, eS_ret_ife, eS_ret_sub, eS_ret_slc, eS_ret_rev, eS_ret_tup, eS_ret_lst, eS_ret_call, eS_ret_prim, eS_ret_isi, eS_ret_comp, eS_ret_app, eS_ret_ext, eS_ret_pop, lpS_nil, lpS_cons, cmS_nil, cmS_cons, rdO, rdS, rdAll, frz, valsOf, argsOf, slotsOf, putBack, subD, slD, prD, seqD, asg, asgs, bopD, copD, eqD, truS, List.mapIdx_cons, List.mapIdx_nil, List.getElem?_cons_zero, List.getElem?_cons_succ, List.set_cons_zero, List.set_cons_succ, List.length_cons, List.length_nil, List.cons_append, List.nil_append, List.replicate_zero, List.replicate_succ, List.append_nil, List.nodup_nil, List.nodup_cons, List.not_mem_nil, Nat.sub_self, Nat.add_one_sub_one, Nat.zero_lt_succ, if_true, if_false, eq_self_iff_true, reduceIte, reduceCtorEq, Nat.zero_le, slv, not_false_eq_true, and_self, and_true, true_and, List.singleton_append, Bool.not_true, Bool.not_false, List.foldl_nil, ite_true, ite_false, beq_self_eq_true, Nat.reduceAdd, Nat.reduceLT, Nat.reduceLeDiff, Nat.reduceSub, Nat.reduceEqDiff, Nat.reduceMul, Int.reduceAdd, Int.reduceLT, Int.reduceLE, Int.reduceNeg, Int.reduceEq, Int.reduceSub, decide_true, decide_false, decide_eq_true_eq, cond_true, cond_false, at0, fi, parts_if, ea, eb, ha, hb, Bool.true_or, Bool.false_or, Bool.false_eq_true, e]⟩
      | whl t a r iha ih =>
        intro z s1 s2 ok hk
        simp only [okB, Bool.and_eq_true] at ok
        simp only [dep] at hk
        have ea := hasI_ok k a ok.1.2 (by omega)
        obtain ⟨u, v, e⟩ := ih z (.val (.tuple [.str "while", t, .tuple (enc a)])) (.val (.tuple (enc a))) ok.2 (by omega)
        cases ha : hasI a with
        | true => exact ⟨.val (.tuple [.str "while", t, .tuple (enc a)]), .val (.tuple (enc a)), by simp only [enc, hasI, runF, tagA, outsA, oXt_non, oXf_non, oXt_bl, oXf_bl, oXt_int, oXf_int, oXt_str, oXf_str, oXt_glb, oXf_glb, oXt_bin, oXf_bin, oXt_neg, oXf_neg, oXt_not, oXf_not, oXt_cmp, oXf_cmp, oXt_chain, oXf_chain, oXt_and, oXf_and, oXt_or, oXf_or, oXt_ife, oXf_ife, oXt_sub, oXf_sub, oXt_slc, oXf_slc, oXt_rev, oXf_rev, oXt_tup, oXf_tup, oXt_lst, oXf_lst, oXt_call, oXf_call, oXt_prim, oXf_prim, oXt_isi, oXf_isi, oXt_comp, oXf_comp, oXt_app, oXf_app, oXt_ext, oXf_ext, oXt_pop, oXf_pop, oXf_var, oXt_var, oX_lend, eX_var, eX_non, eX_bl, eX_int, eX_str, eX_glb, eX_bin, eX_neg, eX_not, eX_cmp, eX_chain, eX_and, eX_or, eX_ife, eX_sub, eX_slc, eX_rev, eX_tup, eX_lst, eX_call, eX_prim, eX_isi, eX_comp, eX_app, eX_ext, eX_pop, eP_nil, eP_cons, eL_nil, eL_cons, eI_rng1, eI_rng2, eI_cons, eS_nil, eS_cons, eS_set, eS_unp, eS_sti, eS_ex, eS_ifs, eS_whl, eS_fors, eS_brk, eS_cnt, eS_pas, eS_retv, eS_ret_non, eS_ret_bl, eS_ret_int, eS_ret_str, eS_ret_glb, eS_ret_bin, eS_ret_neg, eS_ret_not, eS_ret_cmp, eS_ret_chain, eS_ret_and, eS_ret_or, eS_ret_ife, eS_ret_sub, eS_ret_slc, eS_ret_rev, eS_ret_tup, eS_ret_lst, eS_ret_call, eS_ret_prim, eS_ret_isi, eS_ret_comp, eS_ret_app, eS_ret_ext, eS_ret_pop, lpS_nil, lpS_cons, cmS_nil, cmS_cons, rdO, rdS, rdAll, frz, valsOf, argsOf, slotsOf, putBack, subD, slD, prD, seqD, asg, asgs, bopD, copD, eqD, truS, List.mapIdx_cons, List.mapIdx_nil, List.getElem?_cons_zero, List.getElem?_cons_succ, List.set_cons_zero, List.set_cons_succ, List.length_cons, List.length_nil, List.cons_append, List.nil_append, List.replicate_zero, List.replicate_succ, List.append_nil, List.nodup_nil, List.nodup_cons, List.not_mem_nil, Nat.sub_self, Nat.add_one_sub_one, Nat.zero_lt_succ, if_true, if_false, eq_self_iff_true, reduceIte, reduceCtorEq, Nat.zero_le, slv, not_false_eq_true, and_self, and_true, true_and, List.singleton_append, Bool.not_true, Bool.not_false, List.foldl_nil, ite_true, ite_false, beq_self_eq_true, Nat.reduceAdd, Nat.reduceLT, Nat.reduceLeDiff, Nat.reduceSub, Nat.reduceEqDiff, Nat.reduceMul, Int.reduceAdd, Int.reduceLT, Int.reduceLE, Int.reduceNeg, Int.reduceEq, Int.reduceSub, decide_true, decide_false, decide_eq_true_eq, cond_true, cond_false, at0, wi, parts_while, ea, ha, Bool.true_or]⟩
        | false => exact ⟨u, v, by simp only [enc, hasI, runF, tagA, outsA, oXt_non, oXf_non, oXt_bl, oXf_bl, oXt_int, oXf_int, oXt_str, oXf_str, oXt_glb, oXf_glb, oXt_bin, oXf_bin, oXt_neg, oXf_neg, oXt_not, oXf_not, oXt_cmp, oXf_cmp, oXt_chain, oXf_chain, oXt_and, oXf_and, oXt_or, oXf_or, oXt_ife, oXf_ife, oXt_sub, oXf_sub, oXt_slc, oXf_slc, oXt_rev, oXf_rev, oXt_tup, oXf_tup, oXt_lst, oXf_lst, oXt_call, oXf_call, oXt_prim, oXf_prim, oXt_isi, oXf_isi, oXt_comp, oXf_comp, oXt_app, oXf_app, oXt_ext, oXf_ext, oXt_pop, oXf_pop, oXf_var, oXt_var, oX_lend, eX_var, eX_non, eX_bl, eX_int, eX_str, eX_glb, eX_bin, eX_neg, eX_not, eX_cmp, eX_chain, eX_and, eX_or, eX_ife, eX_sub, eX_slc, eX_rev, eX_tup, eX_lst, eX_call, eX_prim, eX_isi, eX_comp, eX_app, eX_ext, eX_pop, eP_nil, eP_cons, eL_nil, eL_cons, eI_rng1, eI_rng2, eI_cons, eS_nil, eS_cons, eS_set, eS_unp, eS_sti, eS_ex, eS_ifs, eS_whl, eS_fors, eS_brk, eS_cnt, eS_pas, eS_retv, eS_ret_non, eS_ret_bl, eS_ret_int, eS_ret_str, eS_ret_glb, eS_ret_bin, eS_ret_neg, eS_ret_not, eS_ret_cmp, eS_ret_chain, eS_ret_and, eS_ret_or, eS_ret_ife, eS_ret_sub, eS_ret_slc, eS_ret_rev, eS_ret_tup, eS_ret_lst, eS_ret_call, eS_ret_prim, eS_ret_isi, eS_ret_comp, eS_ret_app, eS_ret_ext, eS_ret_pop, lpS_nil, lpS_cons, cmS_nil, cmS_cons, rdO, rdS, rdAll, frz, valsOf, argsOf, slotsOf, putBack, subD, slD, prD, seqD, asg, asgs, bopD, copD, eqD, truS, List.mapIdx_cons, List.mapIdx_nil, List.getElem?_cons_zero, List.getElem?_cons_succ, List.set_cons_zero, List.set_cons_succ, List.length_cons, List.length_nil, List.cons_append, List.nil_append, List.replicate_zero, List.replicate_succ, List.append_nil, List.nodup_nil, List.nodup_cons, List.not_mem_nil, Nat.sub_self, Nat.add_one_sub_one, Nat.zero_lt_succ, if_true, if_false, eq_self_iff_true, reduceIte, reduceCtorEq, Nat.zero_le, slv, not_false_eq_true, and_self, and_true, true_and, List.singleton_append, Bool.not_true, Bool.not_false, List.foldl_nil, ite_true, ite_false, beq_self_eq_true, Nat.reduceAdd, Nat.reduceLT, Nat.reduceLeDiff, Nat.reduceSub, Nat.reduceEqDiff, Nat.reduceMul, Int.reduceAdd, Int.reduceLT, Int.reduceLE, Int.reduceNeg, Int.reduceEq, Int.reduceSub, decide_true, decide_false, decide_eq_true_eq, cond_true, cond_false, at0, wi, parts_while, ea, ha, Bool.false_or, Bool.false_eq_true, e]⟩
    obtain ⟨u, v, e⟩ := L b (.val (.tuple (enc b))) .un .un ok hk
    rw [run1]
    cases h : hasI b with
    | true =>
      rw [h, cond_true] at e
      simp only [runF, tagA, outsA, oXt_non, oXf_non, oXt_bl, oXf_bl, oXt_int, oXf_int, oXt_str, oXf_str, oXt_glb, oXf_glb, oXt_bin, oXf_bin, oXt_neg, oXf_neg, oXt_not, oXf_not, oXt_cmp, oXf_cmp, oXt_chain, oXf_chain, oXt_and, oXf_and, oXt_or, oXf_or, oXt_ife, oXf_ife, oXt_sub, oXf_sub, oXt_slc, oXf_slc, oXt_rev, oXf_rev, oXt_tup, oXf_tup, oXt_lst, oXf_lst, oXt_call, oXf_call, oXt_prim, oXf_prim, oXt_isi, oXf_isi, oXt_comp, oXf_comp, oXt_app, oXf_app, oXt_ext, oXf_ext, oXt_pop, oXf_pop, oXf_var, oXt_var, oX_lend, eX_var, eX_non, eX_bl, eX_int, eX_str, eX_glb, eX_bin, eX_neg, eX_not, eX_cmp, eX_chain, eX_and, eX_or, eX_ife, eX_sub, eX_slc, eX_rev, eX_tup, eX_lst, eX_call, eX_prim, eX_isi, eX_comp, eX_app, eX_ext, eX_pop, eP_nil, eP_cons, eL_nil, eL_cons, eI_rng1, eI_rng2, eI_cons, eS_nil, eS_cons, eS_set, eS_unp, eS_sti, eS_ex, eS_ifs, eS_whl, eS_fors, eS_brk, eS_cnt, eS_pas, eS_retv, eS_ret_non, eS_ret_bl, eS_ret_int, eS_ret_str, eS_ret_glb, eS_ret_bin, eS_ret_neg, eS_ret_not, eS_ret_cmp, eS_ret_chain, eS_ret_and, eS_ret_or, eS_ret_ife, eS_ret_sub, eS_ret_slc, eS_ret_rev, eS_ret_tup, eS_ret_lst, eS_ret_call, eS_ret_prim, eS_ret_isi, eS_ret_comp, eS_ret_app, eS_ret_ext, eS_ret_pop, lpS_nil, lpS_cons, cmS_nil, cmS_cons, rdO, rdS, rdAll, frz, valsOf, argsOf, slotsOf, putBack, subD, slD, prD, seqD, asg, asgs, bopD, copD, eqD, truS, List.mapIdx_cons, List.mapIdx_nil, List.getElem?_cons_zero, List.getElem?_cons_succ, List.set_cons_zero, List.set_cons_succ, List.length_cons, List.length_nil, List.cons_append, List.nil_append, List.replicate_zero, List.replicate_succ, List.append_nil, List.nodup_nil, List.nodup_cons, List.not_mem_nil, Nat.sub_self, Nat.add_one_sub_one, Nat.zero_lt_succ, if_true, if_false, eq_self_iff_true, reduceIte, reduceCtorEq, Nat.zero_le, slv, not_false_eq_true, and_self, and_true, true_and, List.singleton_append, Bool.not_true, Bool.not_false, List.foldl_nil, ite_true, ite_false, beq_self_eq_true, Nat.reduceAdd, Nat.reduceLT, Nat.reduceLeDiff, Nat.reduceSub, Nat.reduceEqDiff, Nat.reduceMul, Int.reduceAdd, Int.reduceLT, Int.reduceLE, Int.reduceNeg, Int.reduceEq, Int.reduceSub, decide_true, decide_false, decide_eq_true_eq, cond_true, cond_false, e]
    | false =>
      rw [h, cond_false] at e
      simp only [runF, tagA, outsA, oXt_non, oXf_non, oXt_bl, oXf_bl, oXt_int, oXf_int, oXt_str, oXf_str, oXt_glb, oXf_glb, oXt_bin, oXf_bin, oXt_neg, oXf_neg, oXt_not, oXf_not, oXt_cmp, oXf_cmp, oXt_chain, oXf_chain, oXt_and, oXf_and, oXt_or, oXf_or, oXt_ife, oXf_ife, oXt_sub, oXf_sub, oXt_slc, oXf_slc, oXt_rev, oXf_rev, oXt_tup, oXf_tup, oXt_lst, oXf_lst, oXt_call, oXf_call, oXt_prim, oXf_prim, oXt_isi, oXf_isi, oXt_comp, oXf_comp, oXt_app, oXf_app, oXt_ext, oXf_ext, oXt_pop, oXf_pop, oXf_var, oXt_var, oX_lend, eX_var, eX_non, eX_bl, eX_int, eX_str, eX_glb, eX_bin, eX_neg, eX_not, eX_cmp, eX_chain, eX_and, eX_or, eX_ife, eX_sub, eX_slc, eX_rev, eX_tup, eX_lst, eX_call, eX_prim, eX_isi, eX_comp, eX_app, eX_ext, eX_pop, eP_nil, eP_cons, eL_nil, eL_cons, eI_rng1, eI_rng2, eI_cons, eS_nil, eS_cons, eS_set, eS_unp, eS_sti, eS_ex, eS_ifs, eS_whl, eS_fors, eS_brk, eS_cnt, eS_pas, eS_retv, eS_ret_non, eS_ret_bl, eS_ret_int, eS_ret_str, eS_ret_glb, eS_ret_bin, eS_ret_neg, eS_ret_not, eS_ret_cmp, eS_ret_chain, eS_ret_and, eS_ret_or, eS_ret_ife, eS_ret_sub, eS_ret_slc, eS_ret_rev, eS_ret_tup, eS_ret_lst, eS_ret_call, eS_ret_prim, eS_ret_isi, eS_ret_comp, eS_ret_app, eS_ret_ext, eS_ret_pop, lpS_nil, lpS_cons, cmS_nil, cmS_cons, rdO, rdS, rdAll, frz, valsOf, argsOf, slotsOf, putBack, subD, slD, prD, seqD, asg, asgs, bopD, copD, eqD, truS, List.mapIdx_cons, List.mapIdx_nil, List.getElem?_cons_zero, List.getElem?_cons_succ, List.set_cons_zero, List.set_cons_succ, List.length_cons, List.length_nil, List.cons_append, List.nil_append, List.replicate_zero, List.replicate_succ, List.append_nil, List.nodup_nil, List.nodup_cons, List.not_mem_nil, Nat.sub_self, Nat.add_one_sub_one, Nat.zero_lt_succ, if_true, if_false, eq_self_iff_true, reduceIte, reduceCtorEq, Nat.zero_le, slv, not_false_eq_true, and_self, and_true, true_and, List.singleton_append, Bool.not_true, Bool.not_false, List.foldl_nil, ite_true, ite_false, beq_self_eq_true, Nat.reduceAdd, Nat.reduceLT, Nat.reduceLeDiff, Nat.reduceSub, Nat.reduceEqDiff, Nat.reduceMul, Int.reduceAdd, Int.reduceLT, Int.reduceLE, Int.reduceNeg, Int.reduceEq, Int.reduceSub, decide_true, decide_false, decide_eq_true_eq, cond_true, cond_false, e]
end Lw

set_option Elab.async false
set_option linter.all false
set_option maxRecDepth 100000
set_option maxHeartbeats 2000000
namespace Lw
open PySem PySem.Spec PyProof.Rows L2 Dv
theorem cl_app : ∀ (a b : List PD), PyData.canLayAll0 (a ++ b) = (PyData.canLayAll0 a && PyData.canLayAll0 b)
  | [], b => rfl
  | x :: a, b => by simp only [List.cons_append, PyData.canLayAll0, cl_app a b, Bool.and_assoc]
theorem da_app : ∀ (a b : List PD), PyData.depthAll (a ++ b) = max (PyData.depthAll a) (PyData.depthAll b)
  | [], b => by simp [PyData.depthAll]
  | x :: a, b => by simp only [List.cons_append, PyData.depthAll, da_app a b]; omega
theorem ct (d : PD) (ds : List PD) : PyData.canLay0 (.tuple ds) = PyData.canLayAll0 ds := by simp only [PyData.canLay0]
theorem enc_cl : ∀ b, okB b = true → PyData.canLayAll0 (enc b) = true ∧ PyData.depthAll (enc b) ≤ 2 * dep b + 4
  | .nil, _ => ⟨rfl, by simp [enc, PyData.depthAll]⟩
  | .simp h xs r, e => by
    simp only [okB, okS, Bool.and_eq_true, decide_eq_true_eq] at e
    have i := enc_cl r e.2
    have p := dep_pos r
    simp only [enc, PyData.canLayAll0, PyData.depthAll, dep, e.1.1.1.1.2, i.1, Bool.and_self, true_and]
    have := e.1.1.1.2
    omega
  | .inner r, e => by
    simp only [okB] at e
    have i := enc_cl r e
    have p := dep_pos r
    have q : inn.canLay0 = true := by decide +kernel
    have q' : inn.depth = 1 := by decide +kernel
    simp only [enc, PyData.canLayAll0, PyData.depthAll, dep, i.1, q, q', Bool.and_self, true_and]
    omega
  | .ife t a b r, e => by
    simp only [okB, okT, Bool.and_eq_true, decide_eq_true_eq] at e
    have i := enc_cl r e.2
    have ia := enc_cl a e.1.1.2
    have ib := enc_cl b e.1.2
    have q : PyData.canLay0 (.str "if") = true := by decide +kernel
    simp only [enc, PyData.canLayAll0, PyData.depthAll, dep, PyData.canLay0, PyData.depth, i.1, ia.1, ib.1, Bool.and_self, true_and, Bool.and_true, Bool.true_and, e.1.1.1.1.1.1, show Str.ofString "if" = ("if" : Str) from rfl, (by decide +kernel : PyData.strOk ("if" : Str) = true)]
    have := e.1.1.1.1.1.2
    omega
  | .whl t a r, e => by
    simp only [okB, okT, Bool.and_eq_true, decide_eq_true_eq] at e
    have i := enc_cl r e.2
    have ia := enc_cl a e.1.2
    simp only [enc, PyData.canLayAll0, PyData.depthAll, dep, PyData.canLay0, PyData.depth, i.1, ia.1, Bool.and_self, true_and, Bool.and_true, Bool.true_and, e.1.1.1.1.1, (by decide +kernel : PyData.strOk ("while" : Str) = true)]
    have := e.1.1.1.1.2
    omega
theorem shp1 {b : Blk} (e : okB b = true) (h : dep b ≤ 25) : SeqAt.shaped (.tuple (enc b)) = true := by
  have i := enc_cl b e
  simp only [SeqAt.shaped, PyData.canLay0, PyData.depth, i.1, Bool.true_and]
  exact decide_eq_true (by omega)
theorem shp2 {a b : Blk} (e : okB a = true) (h : dep a ≤ 25) (e' : okB b = true) (h' : dep b ≤ 25) : SeqAt.shaped (.tuple [.tuple (enc a), .tuple (enc b)]) = true := by
  have i := enc_cl a e
  have j := enc_cl b e'
  simp only [SeqAt.shaped, PyData.canLay0, PyData.canLayAll0, PyData.depth, PyData.depthAll, i.1, j.1, Bool.and_true, Bool.true_and]
  exact decide_eq_true (by omega)
theorem shp3 {a : Blk} (e : okB a = true) (h : dep a ≤ 25) : SeqAt.shaped (.tuple [.tuple (enc a)]) = true := by
  have i := enc_cl a e
  simp only [SeqAt.shaped, PyData.canLay0, PyData.canLayAll0, PyData.depth, PyData.depthAll, i.1, Bool.and_true, Bool.true_and]
  exact decide_eq_true (by omega)
theorem shp0 : SeqAt.shaped (.tuple []) = true := by decide +kernel
theorem eq00 : PyData.eqv (.tuple []) (.tuple []) = true := by decide +kernel
theorem eq10 (a : PD) (r : List PD) : PyData.eqv (.tuple (a :: r)) (.tuple []) = false := by simp only [PyData.eqv, PyData.eqvAll]
/-! blocks put together, filled -/
def app : Blk → Blk → Blk
  | .nil, c => c
  | .simp h xs r, c => .simp h xs (app r c)
  | .inner r, c => .inner (app r c)
  | .ife t a b r, c => .ife t a b (app r c)
  | .whl t a r, c => .whl t a (app r c)
def fillB : Blk → Blk → Blk
  | .nil, _ => .nil
  | .simp h xs r, o => .simp h xs (fillB r o)
  | .inner r, o => app o (fillB r o)
  | .ife t a b r, o => .ife t (fillB a o) (fillB b o) (fillB r o)
  | .whl t a r, o => .whl t (fillB a o) (fillB r o)
theorem enc_app : ∀ a b, enc (app a b) = enc a ++ enc b
  | .nil, _ => rfl
  | .simp _ _ r, b => by simp only [app, enc, enc_app r b, List.cons_append]
  | .inner r, b => by simp only [app, enc, enc_app r b, List.cons_append]
  | .ife _ _ _ r, b => by simp only [app, enc, enc_app r b, List.cons_append]
  | .whl _ _ r, b => by simp only [app, enc, enc_app r b, List.cons_append]
theorem wt_app : ∀ a b, wt (app a b) = wt a + wt b
  | .nil, _ => by simp only [app, wt]; omega
  | .simp _ _ r, b => by simp only [app, wt, wt_app r b]; omega
  | .inner r, b => by simp only [app, wt, wt_app r b]; omega
  | .ife _ _ _ r, b => by simp only [app, wt, wt_app r b]; omega
  | .whl _ _ r, b => by simp only [app, wt, wt_app r b]; omega
theorem dep_app : ∀ a b, dep (app a b) = max (dep a) (dep b)
  | .nil, b => by have := dep_pos b; simp only [app, dep]; omega
  | .simp _ _ r, b => by simp only [app, dep, dep_app r b]
  | .inner r, b => by simp only [app, dep, dep_app r b]
  | .ife _ _ _ r, b => by simp only [app, dep, dep_app r b]; omega
  | .whl _ _ r, b => by simp only [app, dep, dep_app r b]; omega
theorem okB_app : ∀ a b, okB (app a b) = (okB a && okB b)
  | .nil, b => by simp only [app, okB, Bool.true_and]
  | .simp _ _ r, b => by simp only [app, okB, okB_app r b, Bool.and_assoc]
  | .inner r, b => by simp only [app, okB, okB_app r b]
  | .ife _ _ _ r, b => by simp only [app, okB, okB_app r b, Bool.and_assoc]
  | .whl _ _ r, b => by simp only [app, okB, okB_app r b, Bool.and_assoc]
theorem hasI_app : ∀ a b, hasI (app a b) = (hasI a || hasI b)
  | .nil, b => by simp only [app, hasI, Bool.false_or]
  | .simp _ _ r, b => by simp only [app, hasI, hasI_app r b]
  | .inner r, b => by simp only [app, hasI, Bool.true_or]
  | .ife _ _ _ r, b => by simp only [app, hasI, hasI_app r b, Bool.or_assoc]
  | .whl _ _ r, b => by simp only [app, hasI, hasI_app r b, Bool.or_assoc]
theorem num_app : ∀ a b, num (app a b) = num a ++ num b
  | .nil, _ => rfl
  | .simp _ _ r, b => by simp only [app, num, num_app r b, List.cons_append]
  | .inner r, b => by simp only [app, num, num_app r b, List.cons_append]
  | .ife _ _ _ r, b => by simp only [app, num, num_app r b, List.cons_append, List.append_assoc]
  | .whl _ _ r, b => by simp only [app, num, num_app r b, List.cons_append, List.append_assoc]
theorem fill_app : ∀ a b o, fillB (app a b) o = app (fillB a o) (fillB b o)
  | .nil, _, _ => rfl
  | .simp _ _ r, b, o => by simp only [app, fillB, fill_app r b o]
  | .inner r, b, o => by
    have as : ∀ x y z, app (app x y) z = app x (app y z) := by
      intro x y z
      induction x with
      | nil => rfl
      | simp _ _ _ ih => simp only [app, ih]
      | inner _ ih => simp only [app, ih]
      | ife _ _ _ _ _ _ ih => simp only [app, ih]
      | whl _ _ _ _ ih => simp only [app, ih]
    simp only [app, fillB, fill_app r b o, as]
  | .ife _ _ _ r, b, o => by simp only [app, fillB, fill_app r b o]
  | .whl _ _ r, b, o => by simp only [app, fillB, fill_app r b o]
theorem okB_fill : ∀ a o, okB a = true → okB o = true → okB (fillB a o) = true
  | .nil, _, _, _ => rfl
  | .simp _ _ r, o, h, g => by simp only [okB, Bool.and_eq_true] at h; simp only [fillB, okB, h.1, okB_fill r o h.2 g, Bool.and_self]
  | .inner r, o, h, g => by simp only [okB] at h; simp only [fillB, okB_app, g, okB_fill r o h g, Bool.and_self]
  | .ife _ a b r, o, h, g => by simp only [okB, Bool.and_eq_true] at h; simp only [fillB, okB, h.1.1.1, okB_fill a o h.1.1.2 g, okB_fill b o h.1.2 g, okB_fill r o h.2 g, Bool.and_self]
  | .whl _ a r, o, h, g => by simp only [okB, Bool.and_eq_true] at h; simp only [fillB, okB, h.1.1, okB_fill a o h.1.2 g, okB_fill r o h.2 g, Bool.and_self]
theorem dep_fill : ∀ a o, dep (fillB a o) + 1 ≤ dep a + dep o
  | .nil, o => by have := dep_pos o; simp only [fillB, dep]; omega
  | .simp _ _ r, o => by have := dep_fill r o; simp only [fillB, dep]; omega
  | .inner r, o => by have := dep_fill r o; have := dep_pos r; simp only [fillB, dep, dep_app]; omega
  | .ife _ a b r, o => by have := dep_fill a o; have := dep_fill b o; have := dep_fill r o; simp only [fillB, dep]; omega
  | .whl _ a r, o => by have := dep_fill a o; have := dep_fill r o; simp only [fillB, dep]; omega
theorem wt_fill : ∀ a o, wt (fillB a o) ≤ wt a * (1 + wt o)
  | .nil, o => by simp only [fillB, wt]; omega
  | .simp _ _ r, o => by have := wt_fill r o; simp only [fillB, wt, Nat.add_mul]; omega
  | .inner r, o => by have := wt_fill r o; simp only [fillB, wt, wt_app, Nat.add_mul]; omega
  | .ife _ a b r, o => by have := wt_fill a o; have := wt_fill b o; have := wt_fill r o; simp only [fillB, wt, Nat.add_mul]; omega
  | .whl _ a r, o => by have := wt_fill a o; have := wt_fill r o; simp only [fillB, wt, Nat.add_mul]; omega
theorem wt_le_fill : ∀ a o, hasI a = false → wt (fillB a o) = wt a ∧ fillB a o = a
  | .nil, o, _ => ⟨rfl, rfl⟩
  | .simp _ _ r, o, h => by simp only [hasI] at h; have := wt_le_fill r o h; simp only [fillB, wt, this.2, and_self]
  | .inner r, o, h => by simp only [hasI] at h; cases h
  | .ife _ a b r, o, h => by
    simp only [hasI, Bool.or_eq_false_iff] at h
    have := wt_le_fill r o h.2; have := wt_le_fill a o h.1.1; have := wt_le_fill b o h.1.2
    simp_all only [fillB, wt, and_self]
  | .whl _ a r, o, h => by
    simp only [hasI, Bool.or_eq_false_iff] at h
    have := wt_le_fill r o h.2; have := wt_le_fill a o h.1
    simp_all only [fillB, wt, and_self]
/-! the defs -/
theorem with_ok (k : Nat) (b : Blk) (ok : okB b = true) (hk : dep b ≤ k) (hw : wt b ≤ 100000) : fnK rs gl0 (k + 2) 2 [.val (.tuple (enc b))] = some (.val (.tuple (cond (hasI b) (enc b) (enc b ++ [inn]))), [.un]) := by
  have e := hasI_ok k b ok hk
  have l := enc_len b
  have l1 : (enc b).length + 1 ≤ 16777216 := by omega
  rw [run2]
  cases h : hasI b with
  | true => rw [h] at e; simp only [runF, tagA, outsA, oXt_non, oXf_non, oXt_bl, oXf_bl, oXt_int, oXf_int, oXt_str, oXf_str, oXt_glb, oXf_glb, oXt_bin, oXf_bin, oXt_neg, oXf_neg, oXt_not, oXf_not, oXt_cmp, oXf_cmp, oXt_chain, oXf_chain, oXt_and, oXf_and, oXt_or, oXf_or, oXt_ife, oXf_ife, oXt_sub, oXf_sub, oXt_slc, oXf_slc, oXt_rev, oXf_rev, oXt_tup, oXf_tup, oXt_lst, oXf_lst, oXt_call, oXf_call, oXt_prim, oXf_prim, oXt_isi, oXf_isi, oXt_comp, oXf_comp, oXt_app, oXf_app, oXt_ext, oXf_ext, oXt_pop, oXf_pop, oXf_var, oXt_var, oX_lend, eX_var, eX_non, eX_bl, eX_int, eX_str, eX_glb, eX_bin, eX_neg, eX_not, eX_cmp, eX_chain, eX_and, eX_or, eX_ife, eX_sub, eX_slc, eX_rev, eX_tup, eX_lst, eX_call, eX_prim, eX_isi, eX_comp, eX_app, eX_ext, eX_pop, eP_nil, eP_cons, eL_nil, eL_cons, eI_rng1, eI_rng2, eI_cons, eS_nil, eS_cons, eS_set, eS_unp, eS_sti, eS_ex, eS_ifs, eS_whl, eS_fors, eS_brk, eS_cnt, eS_pas, eS_retv, eS_ret_non, eS_ret_bl, eS_ret_int, eS_ret_str, eS_ret_glb, eS_ret_bin, eS_ret_neg, eS_ret_not, eS_ret_cmp, eS_ret_chain, eS_ret_and, eS_ret_or, eS_ret_ife, eS_ret_sub, eS_ret_slc, eS_ret_rev, eS_ret_tup, eS_ret_lst, eS_ret_call, eS_ret_prim, eS_ret_isi, eS_ret_comp, eS_ret_app, eS_ret_ext, eS_ret_pop, lpS_nil, lpS_cons, cmS_nil, cmS_cons, rdO, rdS, rdAll, frz, valsOf, argsOf, slotsOf, putBack, subD, slD, prD, seqD, asg, asgs, bopD, copD, eqD, truS, List.mapIdx_cons, List.mapIdx_nil, List.getElem?_cons_zero, List.getElem?_cons_succ, List.set_cons_zero, List.set_cons_succ, List.length_cons, List.length_nil, List.cons_append, List.nil_append, List.replicate_zero, List.replicate_succ, List.append_nil, List.nodup_nil, List.nodup_cons, List.not_mem_nil, Nat.sub_self, Nat.add_one_sub_one, Nat.zero_lt_succ, if_true, if_false, eq_self_iff_true, reduceIte, reduceCtorEq, Nat.zero_le, slv, not_false_eq_true, and_self, and_true, true_and, List.singleton_append, Bool.not_true, Bool.not_false, List.foldl_nil, ite_true, ite_false, beq_self_eq_true, Nat.reduceAdd, Nat.reduceLT, Nat.reduceLeDiff, Nat.reduceSub, Nat.reduceEqDiff, Nat.reduceMul, Int.reduceAdd, Int.reduceLT, Int.reduceLE, Int.reduceNeg, Int.reduceEq, Int.reduceSub, decide_true, decide_false, decide_eq_true_eq, cond_true, cond_false, e]
  | false => rw [h] at e; simp only [runF, tagA, outsA, oXt_non, oXf_non, oXt_bl, oXf_bl, oXt_int, oXf_int, oXt_str, oXf_str, oXt_glb, oXf_glb, oXt_bin, oXf_bin, oXt_neg, oXf_neg, oXt_not, oXf_not, oXt_cmp, oXf_cmp, oXt_chain, oXf_chain, oXt_and, oXf_and, oXt_or, oXf_or, oXt_ife, oXf_ife, oXt_sub, oXf_sub, oXt_slc, oXf_slc, oXt_rev, oXf_rev, oXt_tup, oXf_tup, oXt_lst, oXf_lst, oXt_call, oXf_call, oXt_prim, oXf_prim, oXt_isi, oXf_isi, oXt_comp, oXf_comp, oXt_app, oXf_app, oXt_ext, oXf_ext, oXt_pop, oXf_pop, oXf_var, oXt_var, oX_lend, eX_var, eX_non, eX_bl, eX_int, eX_str, eX_glb, eX_bin, eX_neg, eX_not, eX_cmp, eX_chain, eX_and, eX_or, eX_ife, eX_sub, eX_slc, eX_rev, eX_tup, eX_lst, eX_call, eX_prim, eX_isi, eX_comp, eX_app, eX_ext, eX_pop, eP_nil, eP_cons, eL_nil, eL_cons, eI_rng1, eI_rng2, eI_cons, eS_nil, eS_cons, eS_set, eS_unp, eS_sti, eS_ex, eS_ifs, eS_whl, eS_fors, eS_brk, eS_cnt, eS_pas, eS_retv, eS_ret_non, eS_ret_bl, eS_ret_int, eS_ret_str, eS_ret_glb, eS_ret_bin, eS_ret_neg, eS_ret_not, eS_ret_cmp, eS_ret_chain, eS_ret_and, eS_ret_or, eS_ret_ife, eS_ret_sub, eS_ret_slc, eS_ret_rev, eS_ret_tup, eS_ret_lst, eS_ret_call, eS_ret_prim, eS_ret_isi, eS_ret_comp, eS_ret_app, eS_ret_ext, eS_ret_pop, lpS_nil, lpS_cons, cmS_nil, cmS_cons, rdO, rdS, rdAll, frz, valsOf, argsOf, slotsOf, putBack, subD, slD, prD, seqD, asg, asgs, bopD, copD, eqD, truS, List.mapIdx_cons, List.mapIdx_nil, List.getElem?_cons_zero, List.getElem?_cons_succ, List.set_cons_zero, List.set_cons_succ, List.length_cons, List.length_nil, List.cons_append, List.nil_append, List.replicate_zero, List.replicate_succ, List.append_nil, List.nodup_nil, List.nodup_cons, List.not_mem_nil, Nat.sub_self, Nat.add_one_sub_one, Nat.zero_lt_succ, if_true, if_false, eq_self_iff_true, reduceIte, reduceCtorEq, Nat.zero_le, slv, not_false_eq_true, and_self, and_true, true_and, List.singleton_append, Bool.not_true, Bool.not_false, List.foldl_nil, ite_true, ite_false, beq_self_eq_true, Nat.reduceAdd, Nat.reduceLT, Nat.reduceLeDiff, Nat.reduceSub, Nat.reduceEqDiff, Nat.reduceMul, Int.reduceAdd, Int.reduceLT, Int.reduceLE, Int.reduceNeg, Int.reduceEq, Int.reduceSub, decide_true, decide_false, decide_eq_true_eq, cond_true, cond_false, e, l1, inn]
theorem fp_simp (k : Nat) (o : PD) {h : Str} {xs : List PD} (e : hd h = true) : fnK rs gl0 (k + 2) 4 [.val (.tuple (.str h :: xs)), .val o] = some (.val (.tuple (.str h :: xs)), [.un, .un]) := by
  rw [run4]
  simp only [runF, tagA, outsA, oXt_non, oXf_non, oXt_bl, oXf_bl, oXt_int, oXf_int, oXt_str, oXf_str, oXt_glb, oXf_glb, oXt_bin, oXf_bin, oXt_neg, oXf_neg, oXt_not, oXf_not, oXt_cmp, oXf_cmp, oXt_chain, oXf_chain, oXt_and, oXf_and, oXt_or, oXf_or, oXt_ife, oXf_ife, oXt_sub, oXf_sub, oXt_slc, oXf_slc, oXt_rev, oXf_rev, oXt_tup, oXf_tup, oXt_lst, oXf_lst, oXt_call, oXf_call, oXt_prim, oXf_prim, oXt_isi, oXf_isi, oXt_comp, oXf_comp, oXt_app, oXf_app, oXt_ext, oXf_ext, oXt_pop, oXf_pop, oXf_var, oXt_var, oX_lend, eX_var, eX_non, eX_bl, eX_int, eX_str, eX_glb, eX_bin, eX_neg, eX_not, eX_cmp, eX_chain, eX_and, eX_or, eX_ife, eX_sub, eX_slc, eX_rev, eX_tup, eX_lst, eX_call, eX_prim, eX_isi, eX_comp, eX_app, eX_ext, eX_pop, eP_nil, eP_cons, eL_nil, eL_cons, eI_rng1, eI_rng2, eI_cons, eS_nil, eS_cons, eS_set, eS_unp, eS_sti, eS_ex, eS_ifs, eS_whl, eS_fors, eS_brk, eS_cnt, eS_pas, eS_retv, eS_ret_non, eS_ret_bl, eS_ret_int, eS_ret_str, eS_ret_glb, eS_ret_bin, eS_ret_neg, eS_ret_not, eS_ret_cmp, eS_ret_chain, eS_ret_and, eS_ret_or, eS_ret_ife, eS_ret_sub, eS_ret_slc, eS_ret_rev, eS_ret_tup, eS_ret_lst, eS_ret_call, eS_ret_prim, eS_ret_isi, eS_ret_comp, eS_ret_app, eS_ret_ext, eS_ret_pop, lpS_nil, lpS_cons, cmS_nil, cmS_cons, rdO, rdS, rdAll, frz, valsOf, argsOf, slotsOf, putBack, subD, slD, prD, seqD, asg, asgs, bopD, copD, eqD, truS, List.mapIdx_cons, List.mapIdx_nil, List.getElem?_cons_zero, List.getElem?_cons_succ, List.set_cons_zero, List.set_cons_succ, List.length_cons, List.length_nil, List.cons_append, List.nil_append, List.replicate_zero, List.replicate_succ, List.append_nil, List.nodup_nil, List.nodup_cons, List.not_mem_nil, Nat.sub_self, Nat.add_one_sub_one, Nat.zero_lt_succ, if_true, if_false, eq_self_iff_true, reduceIte, reduceCtorEq, Nat.zero_le, slv, not_false_eq_true, and_self, and_true, true_and, List.singleton_append, Bool.not_true, Bool.not_false, List.foldl_nil, ite_true, ite_false, beq_self_eq_true, Nat.reduceAdd, Nat.reduceLT, Nat.reduceLeDiff, Nat.reduceSub, Nat.reduceEqDiff, Nat.reduceMul, Int.reduceAdd, Int.reduceLT, Int.reduceLE, Int.reduceNeg, Int.reduceEq, Int.reduceSub, decide_true, decide_false, decide_eq_true_eq, cond_true, cond_false, parts_simp k e, shp0, eq00]
theorem fp_if (k : Nat) (o t : PD) {a b a' b' : List PD} (h : SeqAt.shaped (.tuple [.tuple a, .tuple b]) = true) (ha : fnK rs gl0 (k + 1) 3 [.val (.tuple a), .val o] = some (.val (.tuple a'), [.un, .un])) (hb : fnK rs gl0 (k + 1) 3 [.val (.tuple b), .val o] = some (.val (.tuple b'), [.un, .un])) :
    fnK rs gl0 (k + 2) 4 [.val (.tuple [.str "if", t, .tuple a, .tuple b]), .val o] = some (.val (.tuple [.str "if", t, .tuple a', .tuple b']), [.un, .un]) := by
  rw [run4]
  simp only [runF, tagA, outsA, oXt_non, oXf_non, oXt_bl, oXf_bl, oXt_int, oXf_int, oXt_str, oXf_str, oXt_glb, oXf_glb, oXt_bin, oXf_bin, oXt_neg, oXf_neg, oXt_not, oXf_not, oXt_cmp, oXf_cmp, oXt_chain, oXf_chain, oXt_and, oXf_and, oXt_or, oXf_or, oXt_ife, oXf_ife, oXt_sub, oXf_sub, oXt_slc, oXf_slc, oXt_rev, oXf_rev, oXt_tup, oXf_tup, oXt_lst, oXf_lst, oXt_call, oXf_call, oXt_prim, oXf_prim, oXt_isi, oXf_isi, oXt_comp, oXf_comp, oXt_app, oXf_app, oXt_ext, oXf_ext, oXt_pop, oXf_pop, oXf_var, oXt_var, oX_lend, eX_var, eX_non, eX_bl, eX_int, eX_str, eX_glb, eX_bin, eX_neg, eX_not, eX_cmp, eX_chain, eX_and, eX_or, eX_ife, eX_sub, eX_slc, eX_rev, eX_tup, eX_lst, eX_call, eX_prim, eX_isi, eX_comp, eX_app, eX_ext, eX_pop, eP_nil, eP_cons, eL_nil, eL_cons, eI_rng1, eI_rng2, eI_cons, eS_nil, eS_cons, eS_set, eS_unp, eS_sti, eS_ex, eS_ifs, eS_whl, eS_fors, eS_brk, eS_cnt, eS_pas, eS_retv, eS_ret_non, eS_ret_bl, eS_ret_int, eS_ret_str, eS_ret_glb, eS_ret_bin, eS_ret_neg, eS_ret_not, eS_ret_cmp, eS_ret_chain, eS_ret_and, eS_ret_or, eS_ret_ife, eS_ret_sub, eS_ret_slc, eS_ret_rev, eS_ret_tup, eS_ret_lst, eS_ret_call, eS_ret_prim, eS_ret_isi, eS_ret_comp, eS_ret_app, eS_ret_ext, eS_ret_pop, lpS_nil, lpS_cons, cmS_nil, cmS_cons, rdO, rdS, rdAll, frz, valsOf, argsOf, slotsOf, putBack, subD, slD, prD, seqD, asg, asgs, bopD, copD, eqD, truS, List.mapIdx_cons, List.mapIdx_nil, List.getElem?_cons_zero, List.getElem?_cons_succ, List.set_cons_zero, List.set_cons_succ, List.length_cons, List.length_nil, List.cons_append, List.nil_append, List.replicate_zero, List.replicate_succ, List.append_nil, List.nodup_nil, List.nodup_cons, List.not_mem_nil, Nat.sub_self, Nat.add_one_sub_one, Nat.zero_lt_succ, if_true, if_false, eq_self_iff_true, reduceIte, reduceCtorEq, Nat.zero_le, slv, not_false_eq_true, and_self, and_true, true_and, List.singleton_append, Bool.not_true, Bool.not_false, List.foldl_nil, ite_true, ite_false, beq_self_eq_true, Nat.reduceAdd, Nat.reduceLT, Nat.reduceLeDiff, Nat.reduceSub, Nat.reduceEqDiff, Nat.reduceMul, Int.reduceAdd, Int.reduceLT, Int.reduceLE, Int.reduceNeg, Int.reduceEq, Int.reduceSub, decide_true, decide_false, decide_eq_true_eq, cond_true, cond_false, parts_if, shp0, eq10, h, blkD, wipeD, blk1, List.map_cons, List.map_nil, ha, hb, cut4']
theorem fp_while (k : Nat) (o t : PD) {a a' : List PD} (h : SeqAt.shaped (.tuple [.tuple a]) = true) (ha : fnK rs gl0 (k + 1) 3 [.val (.tuple a), .val o] = some (.val (.tuple a'), [.un, .un])) :
    fnK rs gl0 (k + 2) 4 [.val (.tuple [.str "while", t, .tuple a]), .val o] = some (.val (.tuple [.str "while", t, .tuple a']), [.un, .un]) := by
  rw [run4]
  simp only [runF, tagA, outsA, oXt_non, oXf_non, oXt_bl, oXf_bl, oXt_int, oXf_int, oXt_str, oXf_str, oXt_glb, oXf_glb, oXt_bin, oXf_bin, oXt_neg, oXf_neg, oXt_not, oXf_not, oXt_cmp, oXf_cmp, oXt_chain, oXf_chain, oXt_and, oXf_and, oXt_or, oXf_or, oXt_ife, oXf_ife, oXt_sub, oXf_sub, oXt_slc, oXf_slc, oXt_rev, oXf_rev, oXt_tup, oXf_tup, oXt_lst, oXf_lst, oXt_call, oXf_call, oXt_prim, oXf_prim, oXt_isi, oXf_isi, oXt_comp, oXf_comp, oXt_app, oXf_app, oXt_ext, oXf_ext, oXt_pop, oXf_pop, oXf_var, oXt_var, oX_lend, eX_var, eX_non, eX_bl, eX_int, eX_str, eX_glb, eX_bin, eX_neg, eX_not, eX_cmp, eX_chain, eX_and, eX_or, eX_ife, eX_sub, eX_slc, eX_rev, eX_tup, eX_lst, eX_call, eX_prim, eX_isi, eX_comp, eX_app, eX_ext, eX_pop, eP_nil, eP_cons, eL_nil, eL_cons, eI_rng1, eI_rng2, eI_cons, eS_nil, eS_cons, eS_set, eS_unp, eS_sti, eS_ex, eS_ifs, eS_whl, eS_fors, eS_brk, eS_cnt, eS_pas, eS_retv, eS_ret_non, eS_ret_bl, eS_ret_int, eS_ret_str, eS_ret_glb, eS_ret_bin, eS_ret_neg, eS_ret_not, eS_ret_cmp, eS_ret_chain, eS_ret_and, eS_ret_or, eS_ret_ife, eS_ret_sub, eS_ret_slc, eS_ret_rev, eS_ret_tup, eS_ret_lst, eS_ret_call, eS_ret_prim, eS_ret_isi, eS_ret_comp, eS_ret_app, eS_ret_ext, eS_ret_pop, lpS_nil, lpS_cons, cmS_nil, cmS_cons, rdO, rdS, rdAll, frz, valsOf, argsOf, slotsOf, putBack, subD, slD, prD, seqD, asg, asgs, bopD, copD, eqD, truS, List.mapIdx_cons, List.mapIdx_nil, List.getElem?_cons_zero, List.getElem?_cons_succ, List.set_cons_zero, List.set_cons_succ, List.length_cons, List.length_nil, List.cons_append, List.nil_append, List.replicate_zero, List.replicate_succ, List.append_nil, List.nodup_nil, List.nodup_cons, List.not_mem_nil, Nat.sub_self, Nat.add_one_sub_one, Nat.zero_lt_succ, if_true, if_false, eq_self_iff_true, reduceIte, reduceCtorEq, Nat.zero_le, slv, not_false_eq_true, and_self, and_true, true_and, List.singleton_append, Bool.not_true, Bool.not_false, List.foldl_nil, ite_true, ite_false, beq_self_eq_true, Nat.reduceAdd, Nat.reduceLT, Nat.reduceLeDiff, Nat.reduceSub, Nat.reduceEqDiff, Nat.reduceMul, Int.reduceAdd, Int.reduceLT, Int.reduceLE, Int.reduceNeg, Int.reduceEq, Int.reduceSub, decide_true, decide_false, decide_eq_true_eq, cond_true, cond_false, parts_while, shp0, eq10, h, blkD, wipeD, blk1, List.map_cons, List.map_nil, ha, cut3']
theorem fill_ok (o : Blk) : ∀ (n : Nat) (b : Blk), okB b = true → dep b ≤ n → n ≤ 25 → wt (fillB b o) ≤ 100000 → ∀ k, 2 * n ≤ k → fnK rs gl0 (k + 1) 3 [.val (.tuple (enc b)), .val (.tuple (enc o))] = some (.val (.tuple (enc (fillB b o))), [.un, .un])
  | 0, b, _, h, _, _, _, _ => absurd (dep_pos b) (by omega)
  | n + 1, b, ok, hd, hn, hw, 0, hk => absurd hk (by omega)
  | n + 1, b, ok, hd, hn, hw, 1, hk => absurd hk (by omega)
  | n + 1, b, ok, hd, hn, hw, k + 2, hk => by
    have L : ∀ b z s acc, okB b = true → dep b ≤ n + 1 → acc.length + wt (fillB b o) ≤ 100000 → ∃ s', lpS ⟨fnK rs gl0 (k + 2), gl0⟩ (.var 3) (.cons (.ifs (.cmp .eq (.sub (.var 3) (.int 0)) (.str "inner")) (.cons (.ex (.ext 2 (.var 1))) .nil) (.cons (.ex (.app 2 (.call 4 (.cons (.var 3) (.cons (.var 1) .nil))))) .nil)) .nil) (enc b) [z, .val (.tuple (enc o)), .own none acc, s] = some (.nx [z, .val (.tuple (enc o)), .own none (acc ++ enc (fillB b o)), s']) := by
      intro b
      induction b with
      | nil => intro z s acc _ _ _; exact ⟨s, by simp only [enc, fillB, runF, tagA, outsA, oXt_non, oXf_non, oXt_bl, oXf_bl, oXt_int, oXf_int, oXt_str, oXf_str, oXt_glb, oXf_glb, oXt_bin, oXf_bin, oXt_neg, oXf_neg, oXt_not, oXf_not, oXt_cmp, oXf_cmp, oXt_chain, oXf_chain, oXt_and, oXf_and, oXt_or, oXf_or, oXt_ife, oXf_ife, oXt_sub, oXf_sub, oXt_slc, oXf_slc, oXt_rev, oXf_rev, oXt_tup, oXf_tup, oXt_lst, oXf_lst, oXt_call, oXf_call, oXt_prim, oXf_prim, oXt_isi, oXf_isi, oXt_comp, oXf_comp, oXt_app, oXf_app, oXt_ext, oXf_ext, oXt_pop, oXf_pop, oXf_var, oXt_var, oX_lend, eX_var, eX_non, eX_bl, eX_int, eX_str, eX_glb, eX_bin, eX_neg, eX_not, eX_cmp, eX_chain, eX_and, eX_or, eX_ife, eX_sub, eX_slc, eX_rev, eX_tup, eX_lst, eX_call, eX_prim, eX_isi, eX_comp, eX_app, eX_ext, eX_pop, eP_nil, eP_cons, eL_nil, eL_cons, eI_rng1, eI_rng2, eI_cons, eS_nil, eS_cons, eS_set, eS_unp, eS_sti, eS_ex, eS_ifs, eS_whl, eS_fors, eS_brk, eS_cnt, eS_pas, eS_retv, eS_ret_non, eS_ret_bl, eS_ret_int, eS_ret_str, eS_ret_glb, eS_ret_bin, eS_ret_neg, eS_ret_not, eS_ret_cmp, eS_ret_chain, eS_ret_and, eS_ret_or, eS_ret_ife, eS_ret_sub, eS_ret_slc, eS_ret_rev, eS_ret_tup, eS_ret_lst, eS_ret_call, eS_ret_prim, eS_ret_isi, eS_ret_comp, eS_ret_app, eS_ret_ext, eS_ret_pop, lpS_nil, lpS_cons, cmS_nil, cmS_cons, rdO, rdS, rdAll, frz, valsOf, argsOf, slotsOf, putBack, subD, slD, prD, seqD, asg, asgs, bopD, copD, eqD, truS, List.mapIdx_cons, List.mapIdx_nil, List.getElem?_cons_zero, List.getElem?_cons_succ, List.set_cons_zero, List.set_cons_succ, List.length_cons, List.length_nil, List.cons_append, List.nil_append, List.replicate_zero, List.replicate_succ, List.append_nil, List.nodup_nil, List.nodup_cons, List.not_mem_nil, Nat.sub_self, Nat.add_one_sub_one, Nat.zero_lt_succ, if_true, if_false, eq_self_iff_true, reduceIte, reduceCtorEq, Nat.zero_le, slv, not_false_eq_true, and_self, and_true, true_and, List.singleton_append, Bool.not_true, Bool.not_false, List.foldl_nil, ite_true, ite_false, beq_self_eq_true, Nat.reduceAdd, Nat.reduceLT, Nat.reduceLeDiff, Nat.reduceSub, Nat.reduceEqDiff, Nat.reduceMul, Int.reduceAdd, Int.reduceLT, Int.reduceLE, Int.reduceNeg, Int.reduceEq, Int.reduceSub, decide_true, decide_false, decide_eq_true_eq, cond_true, cond_false]⟩
      | simp h xs r ih =>
        intro z s acc ok hd hw
        simp only [okB, Bool.and_eq_true] at ok
        simp only [fillB, wt] at hw
        obtain ⟨s', e⟩ := ih z (.val (.tuple (.str h :: xs))) (acc ++ [.tuple (.str h :: xs)]) ok.2 hd (by simp only [List.length_append, List.length_cons, List.length_nil]; omega)
        have l : acc.length < 16777216 := by omega
        exact ⟨s', by simp only [enc, fillB, runF, tagA, outsA, oXt_non, oXf_non, oXt_bl, oXf_bl, oXt_int, oXf_int, oXt_str, oXf_str, oXt_glb, oXf_glb, oXt_bin, oXf_bin, oXt_neg, oXf_neg, oXt_not, oXf_not, oXt_cmp, oXf_cmp, oXt_chain, oXf_chain, oXt_and, oXf_and, oXt_or, oXf_or, oXt_ife, oXf_ife, oXt_sub, oXf_sub, oXt_slc, oXf_slc, oXt_rev, oXf_rev, oXt_tup, oXf_tup, oXt_lst, oXf_lst, oXt_call, oXf_call, oXt_prim, oXf_prim, oXt_isi, oXf_isi, oXt_comp, oXf_comp, oXt_app, oXf_app, oXt_ext, oXf_ext, oXt_pop, oXf_pop, oXf_var, oXt_var, oX_lend, eX_var, eX_non, eX_bl, eX_int, eX_str, eX_glb, eX_bin, eX_neg, eX_not, eX_cmp, eX_chain, eX_and, eX_or, eX_ife, eX_sub, eX_slc, eX_rev, eX_tup, eX_lst, eX_call, eX_prim, eX_isi, eX_comp, eX_app, eX_ext, eX_pop, eP_nil, eP_cons, eL_nil, eL_cons, eI_rng1, eI_rng2, eI_cons, eS_nil, eS_cons, eS_set, eS_unp, eS_sti, eS_ex, eS_ifs, eS_whl, eS_fors, eS_brk, eS_cnt, eS_pas, eS_retv, eS_ret_non, eS_ret_bl, eS_ret_int, eS_ret_str, eS_ret_glb, eS_ret_bin, eS_ret_neg, eS_ret_not, eS_ret_cmp, eS_ret_chain, eS_ret_and, eS_ret_or, eS_ret_ife, eS_ret_sub, eS_ret_slc, eS_ret_rev, eS_ret_tup, eS_ret_lst, eS_ret_call, eS_ret_prim, eS_ret_isi, eS_ret_comp, eS_ret_app, eS_ret_ext, eS_ret_pop, lpS_nil, lpS_cons, cmS_nil, cmS_cons, rdO, rdS, rdAll, frz, valsOf, argsOf, slotsOf, putBack, subD, slD, prD, seqD, asg, asgs, bopD, copD, eqD, truS, List.mapIdx_cons, List.mapIdx_nil, List.getElem?_cons_zero, List.getElem?_cons_succ, List.set_cons_zero, List.set_cons_succ, List.length_cons, List.length_nil, List.cons_append, List.nil_append, List.replicate_zero, List.replicate_succ, List.append_nil, List.nodup_nil, List.nodup_cons, List.not_mem_nil, Nat.sub_self, Nat.add_one_sub_one, Nat.zero_lt_succ, if_true, if_false, eq_self_iff_true, reduceIte, reduceCtorEq, Nat.zero_le, slv, not_false_eq_true, and_self, and_true, true_and, List.singleton_append, Bool.not_true, Bool.not_false, List.foldl_nil, ite_true, ite_false, beq_self_eq_true, Nat.reduceAdd, Nat.reduceLT, Nat.reduceLeDiff, Nat.reduceSub, Nat.reduceEqDiff, Nat.reduceMul, Int.reduceAdd, Int.reduceLT, Int.reduceLE, Int.reduceNeg, Int.reduceEq, Int.reduceSub, decide_true, decide_false, decide_eq_true_eq, cond_true, cond_false, at0, hd_inner (okS_hd ok.1), fp_simp k _ (okS_hd ok.1), l, e, List.append_assoc]⟩
      | inner r ih =>
        intro z s acc ok hd hw
        simp only [okB] at ok
        simp only [fillB, wt_app] at hw
        have le := enc_len o
        obtain ⟨s', e⟩ := ih z (.val (.tuple [.str "inner"])) (acc ++ enc o) ok hd (by simp only [List.length_append]; omega)
        have l : acc.length + (enc o).length ≤ 16777216 := by omega
        exact ⟨s', by simp only [enc, enc_app, fillB, runF, tagA, outsA, oXt_non, oXf_non, oXt_bl, oXf_bl, oXt_int, oXf_int, oXt_str, oXf_str, oXt_glb, oXf_glb, oXt_bin, oXf_bin, oXt_neg, oXf_neg, oXt_not, oXf_not, oXt_cmp, oXf_cmp, oXt_chain, oXf_chain, oXt_and, oXf_and, oXt_or, oXf_or, oXt_ife, oXf_ife, oXt_sub, oXf_sub, oXt_slc, oXf_slc, oXt_rev, oXf_rev, oXt_tup, oXf_tup, oXt_lst, oXf_lst, oXt_call, oXf_call, oXt_prim, oXf_prim, oXt_isi, oXf_isi, oXt_comp, oXf_comp, oXt_app, oXf_app, oXt_ext, oXf_ext, oXt_pop, oXf_pop, oXf_var, oXt_var, oX_lend, eX_var, eX_non, eX_bl, eX_int, eX_str, eX_glb, eX_bin, eX_neg, eX_not, eX_cmp, eX_chain, eX_and, eX_or, eX_ife, eX_sub, eX_slc, eX_rev, eX_tup, eX_lst, eX_call, eX_prim, eX_isi, eX_comp, eX_app, eX_ext, eX_pop, eP_nil, eP_cons, eL_nil, eL_cons, eI_rng1, eI_rng2, eI_cons, eS_nil, eS_cons, eS_set, eS_unp, eS_sti, eS_ex, eS_ifs, eS_whl, eS_fors, eS_brk, eS_cnt, eS_pas, eS_retv, eS_ret_non, eS_ret_bl, eS_ret_int, eS_ret_str, eS_ret_glb, eS_ret_bin, eS_ret_neg, eS_ret_not, eS_ret_cmp, eS_ret_chain, eS_ret_and, eS_ret_or, eS_ret_ife, eS_ret_sub, eS_ret_slc, eS_ret_rev, eS_ret_tup, eS_ret_lst, eS_ret_call, eS_ret_prim, eS_ret_isi, eS_ret_comp, eS_ret_app, eS_ret_ext, eS_ret_pop, lpS_nil, lpS_cons, cmS_nil, cmS_cons, rdO, rdS, rdAll, frz, valsOf, argsOf, slotsOf, putBack, subD, slD, prD, seqD, asg, asgs, bopD, copD, eqD, truS, List.mapIdx_cons, List.mapIdx_nil, List.getElem?_cons_zero, List.getElem?_cons_succ, List.set_cons_zero, List.set_cons_succ, List.length_cons, List.length_nil, List.cons_append, List.nil_append, List.replicate_zero, List.replicate_succ, List.append_nil, List.nodup_nil, List.nodup_cons, List.not_mem_nil, Nat.sub_self, Nat.add_one_sub_one, Nat.zero_lt_succ, if_true, if_false, eq_self_iff_true, reduceIte, reduceCtorEq, Nat.zero_le, slv, not_false_eq_true, and_self, and_true, true_and, List.singleton_append, Bool.not_true, Bool.not_false, List.foldl_nil, ite_true, ite_false, beq_self_eq_true, Nat.reduceAdd, Nat.reduceLT, Nat.reduceLeDiff, Nat.reduceSub, Nat.reduceEqDiff, Nat.reduceMul, Int.reduceAdd, Int.reduceLT, Int.reduceLE, Int.reduceNeg, Int.reduceEq, Int.reduceSub, decide_true, decide_false, decide_eq_true_eq, cond_true, cond_false, at0, inn, l, e, List.append_assoc]⟩
      | ife t a b r iha ihb ih =>
        intro z s acc ok hd hw
        simp only [okB, Bool.and_eq_true] at ok
        simp only [dep] at hd
        simp only [fillB, wt] at hw
        obtain ⟨s', e⟩ := ih z (.val (.tuple [.str "if", t, .tuple (enc a), .tuple (enc b)])) (acc ++ [.tuple [.str "if", t, .tuple (enc (fillB a o)), .tuple (enc (fillB b o))]]) ok.2 (by omega) (by simp only [List.length_append, List.length_cons, List.length_nil]; omega)
        have l : acc.length < 16777216 := by omega
        have ea := fill_ok o n a ok.1.1.2 (by omega) (by omega) (by omega) k (by omega)
        have eb := fill_ok o n b ok.1.2 (by omega) (by omega) (by omega) k (by omega)
        exact ⟨s', by simp only [enc, fillB, runF, tagA, outsA, oXt_non, oXf_non, oXt_bl, oXf_bl, oXt_int, oXf_int, oXt_str, oXf_str, oXt_glb, oXf_glb, oXt_bin, oXf_bin, oXt_neg, oXf_neg, oXt_not, oXf_not, oXt_cmp, oXf_cmp, oXt_chain, oXf_chain, oXt_and, oXf_and, oXt_or, oXf_or, oXt_ife, oXf_ife, oXt_sub, oXf_sub, oXt_slc, oXf_slc, oXt_rev, oXf_rev, oXt_tup, oXf_tup, oXt_lst, oXf_lst, oXt_call, oXf_call, oXt_prim, oXf_prim, oXt_isi, oXf_isi, oXt_comp, oXf_comp, oXt_app, oXf_app, oXt_ext, oXf_ext, oXt_pop, oXf_pop, oXf_var, oXt_var, oX_lend, eX_var, eX_non, eX_bl, eX_int, eX_str, eX_glb, eX_bin, eX_neg, eX_not, eX_cmp, eX_chain, eX_and, eX_or, eX_ife, eX_sub, eX_slc, eX_rev, eX_tup, eX_lst, eX_call, eX_prim, eX_isi, eX_comp, eX_app, eX_ext, eX_pop, eP_nil, eP_cons, eL_nil, eL_cons, eI_rng1, eI_rng2, eI_cons, eS_nil, eS_cons, eS_set, eS_unp, eS_sti, eS_ex, eS_ifs, eS_whl, eS_fors, eS_brk, eS_cnt, eS_pas, eS_retv, eS_ret_non, eS_ret_bl, eS_ret_int, eS_ret_str, eS_ret_glb, eS_ret_bin, eS_ret_neg, eS_ret_not, eS_ret_cmp, eS_ret_chain, eS_ret_and, eS_ret_or, eS_ret_ife, eS_ret_sub, eS_ret_slc, eS_ret_rev, eS_ret_tup, eS_ret_lst, eS_ret_call, eS_ret_prim, eS_ret_isi, eS_ret_comp, eS_ret_app, eS_ret_ext, eS_ret_pop, lpS_nil, lpS_cons, cmS_nil, cmS_cons, rdO, rdS, rdAll, frz, valsOf, argsOf, slotsOf, putBack, subD, slD, prD, seqD, asg, asgs, bopD, copD, eqD, truS, List.mapIdx_cons, List.mapIdx_nil, List.getElem?_cons_zero, List.getElem?_cons_succ, List.set_cons_zero, List.set_cons_succ, List.length_cons, List.length_nil, List.cons_append, List.nil_append, List.replicate_zero, List.replicate_succ, List.append_nil, List.nodup_nil, List.nodup_cons, List.not_mem_nil, Nat.sub_self, Nat.add_one_sub_one, Nat.zero_lt_succ, if_true, if_false, eq_self_iff_true, reduceIte, reduceCtorEq, Nat.zero_le, slv, not_false_eq_true, and_self, and_true, true_and, List.singleton_append, Bool.not_true, Bool.not_false, List.foldl_nil, ite_true, ite_false, beq_self_eq_true, Nat.reduceAdd, Nat.reduceLT, Nat.reduceLeDiff, Nat.reduceSub, Nat.reduceEqDiff, Nat.reduceMul, Int.reduceAdd, Int.reduceLT, Int.reduceLE, Int.reduceNeg, Int.reduceEq, Int.reduceSub, decide_true, decide_false, decide_eq_true_eq, cond_true, cond_false, at0, fi, fp_if k _ t (shp2 ok.1.1.2 (by omega) ok.1.2 (by omega)) ea eb, l, e, List.append_assoc]⟩
      | whl t a r iha ih =>
        intro z s acc ok hd hw
        simp only [okB, Bool.and_eq_true] at ok
        simp only [dep] at hd
        simp only [fillB, wt] at hw
        obtain ⟨s', e⟩ := ih z (.val (.tuple [.str "while", t, .tuple (enc a)])) (acc ++ [.tuple [.str "while", t, .tuple (enc (fillB a o))]]) ok.2 (by omega) (by simp only [List.length_append, List.length_cons, List.length_nil]; omega)
        have l : acc.length < 16777216 := by omega
        have ea := fill_ok o n a ok.1.2 (by omega) (by omega) (by omega) k (by omega)
        exact ⟨s', by simp only [enc, fillB, runF, tagA, outsA, oXt_non, oXf_non, oXt_bl, oXf_bl, oXt_int, oXf_int, oXt_str, oXf_str, oXt_glb, oXf_glb, oXt_bin, oXf_bin, oXt_neg, oXf_neg, oXt_not, oXf_not, oXt_cmp, oXf_cmp, oXt_chain, oXf_chain, oXt_and, oXf_and, oXt_or, oXf_or, oXt_ife, oXf_ife, oXt_sub, oXf_sub, oXt_slc, oXf_slc, oXt_rev, oXf_rev, oXt_tup, oXf_tup, oXt_lst, oXf_lst, oXt_call, oXf_call, oXt_prim, oXf_prim, oXt_isi, oXf_isi, oXt_comp, oXf_comp, oXt_app, oXf_app, oXt_ext, oXf_ext, oXt_pop, oXf_pop, oXf_var, oXt_var, oX_lend, eX_var, eX_non, eX_bl, eX_int, eX_str, eX_glb, eX_bin, eX_neg, eX_not, eX_cmp, eX_chain, eX_and, eX_or, eX_ife, eX_sub, eX_slc, eX_rev, eX_tup, eX_lst, eX_call, eX_prim, eX_isi, eX_comp, eX_app, eX_ext, eX_pop, eP_nil, eP_cons, eL_nil, eL_cons, eI_rng1, eI_rng2, eI_cons, eS_nil, eS_cons, eS_set, eS_unp, eS_sti, eS_ex, eS_ifs, eS_whl, eS_fors, eS_brk, eS_cnt, eS_pas, eS_retv, eS_ret_non, eS_ret_bl, eS_ret_int, eS_ret_str, eS_ret_glb, eS_ret_bin, eS_ret_neg, eS_ret_not, eS_ret_cmp, eS_ret_chain, eS_ret_and, eS_ret_or, eS_ret_ife, eS_ret_sub, eS_ret_slc, eS_ret_rev, eS_ret_tup, eS_ret_lst, eS_ret_call, eS_ret_prim, eS_ret_isi, eS_ret_comp, eS_ret_app, eS_ret_ext, eS_ret_pop, lpS_nil, lpS_cons, cmS_nil, cmS_cons, rdO, rdS, rdAll, frz, valsOf, argsOf, slotsOf, putBack, subD, slD, prD, seqD, asg, asgs, bopD, copD, eqD, truS, List.mapIdx_cons, List.mapIdx_nil, List.getElem?_cons_zero, List.getElem?_cons_succ, List.set_cons_zero, List.set_cons_succ, List.length_cons, List.length_nil, List.cons_append, List.nil_append, List.replicate_zero, List.replicate_succ, List.append_nil, List.nodup_nil, List.nodup_cons, List.not_mem_nil, Nat.sub_self, Nat.add_one_sub_one, Nat.zero_lt_succ, if_true, if_false, eq_self_iff_true, reduceIte, reduceCtorEq, Nat.zero_le, slv, not_false_eq_true, and_self, and_true, true_and, List.singleton_append, Bool.not_true, Bool.not_false, List.foldl_nil, ite_true, ite_false, beq_self_eq_true, Nat.reduceAdd, Nat.reduceLT, Nat.reduceLeDiff, Nat.reduceSub, Nat.reduceEqDiff, Nat.reduceMul, Int.reduceAdd, Int.reduceLT, Int.reduceLE, Int.reduceNeg, Int.reduceEq, Int.reduceSub, decide_true, decide_false, decide_eq_true_eq, cond_true, cond_false, at0, wi, fp_while k _ t (shp3 ok.1.2 (by omega)) ea, l, e, List.append_assoc]⟩
    obtain ⟨s', e⟩ := L b (.val (.tuple (enc b))) .un [] ok hd (by simp only [List.length_nil]; omega)
    rw [run3]
    simp only [runF, tagA, outsA, oXt_non, oXf_non, oXt_bl, oXf_bl, oXt_int, oXf_int, oXt_str, oXf_str, oXt_glb, oXf_glb, oXt_bin, oXf_bin, oXt_neg, oXf_neg, oXt_not, oXf_not, oXt_cmp, oXf_cmp, oXt_chain, oXf_chain, oXt_and, oXf_and, oXt_or, oXf_or, oXt_ife, oXf_ife, oXt_sub, oXf_sub, oXt_slc, oXf_slc, oXt_rev, oXf_rev, oXt_tup, oXf_tup, oXt_lst, oXf_lst, oXt_call, oXf_call, oXt_prim, oXf_prim, oXt_isi, oXf_isi, oXt_comp, oXf_comp, oXt_app, oXf_app, oXt_ext, oXf_ext, oXt_pop, oXf_pop, oXf_var, oXt_var, oX_lend, eX_var, eX_non, eX_bl, eX_int, eX_str, eX_glb, eX_bin, eX_neg, eX_not, eX_cmp, eX_chain, eX_and, eX_or, eX_ife, eX_sub, eX_slc, eX_rev, eX_tup, eX_lst, eX_call, eX_prim, eX_isi, eX_comp, eX_app, eX_ext, eX_pop, eP_nil, eP_cons, eL_nil, eL_cons, eI_rng1, eI_rng2, eI_cons, eS_nil, eS_cons, eS_set, eS_unp, eS_sti, eS_ex, eS_ifs, eS_whl, eS_fors, eS_brk, eS_cnt, eS_pas, eS_retv, eS_ret_non, eS_ret_bl, eS_ret_int, eS_ret_str, eS_ret_glb, eS_ret_bin, eS_ret_neg, eS_ret_not, eS_ret_cmp, eS_ret_chain, eS_ret_and, eS_ret_or, eS_ret_ife, eS_ret_sub, eS_ret_slc, eS_ret_rev, eS_ret_tup, eS_ret_lst, eS_ret_call, eS_ret_prim, eS_ret_isi, eS_ret_comp, eS_ret_app, eS_ret_ext, eS_ret_pop, lpS_nil, lpS_cons, cmS_nil, cmS_cons, rdO, rdS, rdAll, frz, valsOf, argsOf, slotsOf, putBack, subD, slD, prD, seqD, asg, asgs, bopD, copD, eqD, truS, List.mapIdx_cons, List.mapIdx_nil, List.getElem?_cons_zero, List.getElem?_cons_succ, List.set_cons_zero, List.set_cons_succ, List.length_cons, List.length_nil, List.cons_append, List.nil_append, List.replicate_zero, List.replicate_succ, List.append_nil, List.nodup_nil, List.nodup_cons, List.not_mem_nil, Nat.sub_self, Nat.add_one_sub_one, Nat.zero_lt_succ, if_true, if_false, eq_self_iff_true, reduceIte, reduceCtorEq, Nat.zero_le, slv, not_false_eq_true, and_self, and_true, true_and, List.singleton_append, Bool.not_true, Bool.not_false, List.foldl_nil, ite_true, ite_false, beq_self_eq_true, Nat.reduceAdd, Nat.reduceLT, Nat.reduceLeDiff, Nat.reduceSub, Nat.reduceEqDiff, Nat.reduceMul, Int.reduceAdd, Int.reduceLT, Int.reduceLE, Int.reduceNeg, Int.reduceEq, Int.reduceSub, decide_true, decide_false, decide_eq_true_eq, cond_true, cond_false, e]
theorem adds_ok : ∀ (k : Nat) (b : Blk) (acc : List PD), okB b = true → dep b ≤ k → acc.length + wt b ≤ 100000 → fnK rs gl0 (k + 1) 6 [.val (.tuple (enc b)), .own none acc] = some (.val .none, [.un, .own none (acc ++ num b)])
  | 0, b, _, _, h, _ => absurd (dep_pos b) (by omega)
  | k + 1, b, acc, ok, hk, hw => by
    have L : ∀ b z s1 s2 acc, okB b = true → dep b ≤ k + 1 → acc.length + wt b ≤ 100000 → ∃ s1' s2', lpS ⟨fnK rs gl0 (k + 1), gl0⟩ (.var 2) (.cons (.ex (.app 1 (.var 2))) (.cons (.fors (.var 3) (.cons (.call 0 (.cons (.var 2) .nil)) .nil) (.cons (.ex (.call 6 (.cons (.var 3) (.cons (.lend 1) .nil)))) .nil)) .nil)) (enc b) [z, .own (some 1) acc, s1, s2] = some (.nx [z, .own (some 1) (acc ++ num b), s1', s2']) := by
      intro b
      induction b with
      | nil => intro z s1 s2 acc _ _ _; exact ⟨s1, s2, by simp only [enc, num, runF, tagA, outsA, oXt_non, oXf_non, oXt_bl, oXf_bl, oXt_int, oXf_int, oXt_str, oXf_str, oXt_glb, oXf_glb, oXt_bin, oXf_bin, oXt_neg, oXf_neg, oXt_not, oXf_not, oXt_cmp, oXf_cmp, oXt_chain, oXf_chain, oXt_and, oXf_and, oXt_or, oXf_or, oXt_ife, oXf_ife, oXt_sub, oXf_sub, oXt_slc, oXf_slc, oXt_rev, oXf_rev, oXt_tup, oXf_tup, oXt_lst, oXf_lst, oXt_call, oXf_call, oXt_prim, oXf_prim, oXt_isi, oXf_isi, oXt_comp, oXf_comp, oXt_app, oXf_app, oXt_ext, oXf_ext, oXt_pop, oXf_pop, oXf_var, oXt_var, oX_lend, eX_var, eX_non, eX_bl, eX_int, eX_str, eX_glb, eX_bin, eX_neg, eX_not, eX_cmp, eX_chain, eX_and, eX_or, eX_ife, eX_sub, eX_slc, eX_rev, eX_tup, eX_lst, eX_call, eX_prim, eX_isi, eX_comp, eX_app, eX_ext, eX_pop, eP_nil, eP_cons, eL_nil, eL_cons, eI_rng1, eI_rng2, eI_cons, eS_nil, eS_cons, eS_set, eS_unp, eS_sti, eS_ex, eS_ifs, eS_whl, eS_fors, eS_brk, eS_cnt, eS_pas, eS_retv, eS_ret_non, eS_ret_bl, eS_ret_int, eS_ret_str, eS_ret_glb, eS_ret_bin, eS_ret_neg, eS_ret_not, eS_ret_cmp, eS_ret_chain, eS_ret_and, eS_ret_or, eS_ret_ife, eS_ret_sub, eS_ret_slc, eS_ret_rev, eS_ret_tup, eS_ret_lst, eS_ret_call, eS_ret_prim, eS_ret_isi, eS_ret_comp, eS_ret_app, eS_ret_ext, eS_ret_pop, lpS_nil, lpS_cons, cmS_nil, cmS_cons, rdO, rdS, rdAll, frz, valsOf, argsOf, slotsOf, putBack, subD, slD, prD, seqD, asg, asgs, bopD, copD, eqD, truS, List.mapIdx_cons, List.mapIdx_nil, List.getElem?_cons_zero, List.getElem?_cons_succ, List.set_cons_zero, List.set_cons_succ, List.length_cons, List.length_nil, List.cons_append, List.nil_append, List.replicate_zero, List.replicate_succ, List.append_nil, List.nodup_nil, List.nodup_cons, List.not_mem_nil, Nat.sub_self, Nat.add_one_sub_one, Nat.zero_lt_succ, if_true, if_false, eq_self_iff_true, reduceIte, reduceCtorEq, Nat.zero_le, slv, not_false_eq_true, and_self, and_true, true_and, List.singleton_append, Bool.not_true, Bool.not_false, List.foldl_nil, ite_true, ite_false, beq_self_eq_true, Nat.reduceAdd, Nat.reduceLT, Nat.reduceLeDiff, Nat.reduceSub, Nat.reduceEqDiff, Nat.reduceMul, Int.reduceAdd, Int.reduceLT, Int.reduceLE, Int.reduceNeg, Int.reduceEq, Int.reduceSub, decide_true, decide_false, decide_eq_true_eq, cond_true, cond_false]⟩
      | simp h xs r ih =>
        intro z s1 s2 acc ok hk hw
        simp only [okB, Bool.and_eq_true] at ok
        simp only [wt] at hw
        obtain ⟨u, v, e⟩ := ih z (.val (.tuple (.str h :: xs))) s2 (acc ++ [.tuple (.str h :: xs)]) ok.2 hk (by simp only [List.length_append, List.length_cons, List.length_nil]; omega)
        have l : acc.length < 16777216 := by omega
        exact ⟨u, v, by simp only [enc, num, runF, tagA, outsA, oXt_non, oXf_non, oXt_bl, oXf_bl, oXt_int, oXf_int, oXt_str, oXf_str, oXt_glb, oXf_glb, oXt_bin, oXf_bin, oXt_neg, oXf_neg, oXt_not, oXf_not, oXt_cmp, oXf_cmp, oXt_chain, oXf_chain, oXt_and, oXf_and, oXt_or, oXf_or, oXt_ife, oXf_ife, oXt_sub, oXf_sub, oXt_slc, oXf_slc, oXt_rev, oXf_rev, oXt_tup, oXf_tup, oXt_lst, oXf_lst, oXt_call, oXf_call, oXt_prim, oXf_prim, oXt_isi, oXf_isi, oXt_comp, oXf_comp, oXt_app, oXf_app, oXt_ext, oXf_ext, oXt_pop, oXf_pop, oXf_var, oXt_var, oX_lend, eX_var, eX_non, eX_bl, eX_int, eX_str, eX_glb, eX_bin, eX_neg, eX_not, eX_cmp, eX_chain, eX_and, eX_or, eX_ife, eX_sub, eX_slc, eX_rev, eX_tup, eX_lst, eX_call, eX_prim, eX_isi, eX_comp, eX_app, eX_ext, eX_pop, eP_nil, eP_cons, eL_nil, eL_cons, eI_rng1, eI_rng2, eI_cons, eS_nil, eS_cons, eS_set, eS_unp, eS_sti, eS_ex, eS_ifs, eS_whl, eS_fors, eS_brk, eS_cnt, eS_pas, eS_retv, eS_ret_non, eS_ret_bl, eS_ret_int, eS_ret_str, eS_ret_glb, eS_ret_bin, eS_ret_neg, eS_ret_not, eS_ret_cmp, eS_ret_chain, eS_ret_and, eS_ret_or, eS_ret_ife, eS_ret_sub, eS_ret_slc, eS_ret_rev, eS_ret_tup, eS_ret_lst, eS_ret_call, eS_ret_prim, eS_ret_isi, eS_ret_comp, eS_ret_app, eS_ret_ext, eS_ret_pop, lpS_nil, lpS_cons, cmS_nil, cmS_cons, rdO, rdS, rdAll, frz, valsOf, argsOf, slotsOf, putBack, subD, slD, prD, seqD, asg, asgs, bopD, copD, eqD, truS, List.mapIdx_cons, List.mapIdx_nil, List.getElem?_cons_zero, List.getElem?_cons_succ, List.set_cons_zero, List.set_cons_succ, List.length_cons, List.length_nil, List.cons_append, List.nil_append, List.replicate_zero, List.replicate_succ, List.append_nil, List.nodup_nil, List.nodup_cons, List.not_mem_nil, Nat.sub_self, Nat.add_one_sub_one, Nat.zero_lt_succ, if_true, if_false, eq_self_iff_true, reduceIte, reduceCtorEq, Nat.zero_le, slv, not_false_eq_true, and_self, and_true, true_and, List.singleton_append, Bool.not_true, Bool.not_false, List.foldl_nil, ite_true, ite_false, beq_self_eq_true, Nat.reduceAdd, Nat.reduceLT, Nat.reduceLeDiff, Nat.reduceSub, Nat.reduceEqDiff, Nat.reduceMul, Int.reduceAdd, Int.reduceLT, Int.reduceLE, Int.reduceNeg, Int.reduceEq, Int.reduceSub, decide_true, decide_false, decide_eq_true_eq, cond_true, cond_false, l, parts_simp k (okS_hd ok.1), e, List.append_assoc]⟩
      | inner r ih =>
        intro z s1 s2 acc ok hk hw
        simp only [wt] at hw
        obtain ⟨u, v, e⟩ := ih z (.val inn) s2 (acc ++ [inn]) ok hk (by simp only [List.length_append, List.length_cons, List.length_nil]; omega)
        have l : acc.length < 16777216 := by omega
        exact ⟨u, v, by simp only [enc, num, runF, tagA, outsA, oXt_non, oXf_non, oXt_bl, oXf_bl, oXt_int, oXf_int, oXt_str, oXf_str, oXt_glb, oXf_glb, oXt_bin, oXf_bin, oXt_neg, oXf_neg, oXt_not, oXf_not, oXt_cmp, oXf_cmp, oXt_chain, oXf_chain, oXt_and, oXf_and, oXt_or, oXf_or, oXt_ife, oXf_ife, oXt_sub, oXf_sub, oXt_slc, oXf_slc, oXt_rev, oXf_rev, oXt_tup, oXf_tup, oXt_lst, oXf_lst, oXt_call, oXf_call, oXt_prim, oXf_prim, oXt_isi, oXf_isi, oXt_comp, oXf_comp, oXt_app, oXf_app, oXt_ext, oXf_ext, oXt_pop, oXf_pop, oXf_var, oXt_var, oX_lend, eX_var, eX_non, eX_bl, eX_int, eX_str, eX_glb, eX_bin, eX_neg, eX_not, eX_cmp, eX_chain, eX_and, eX_or, eX_ife, eX_sub, eX_slc, eX_rev, eX_tup, eX_lst, eX_call, eX_prim, eX_isi, eX_comp, eX_app, eX_ext, eX_pop, eP_nil, eP_cons, eL_nil, eL_cons, eI_rng1, eI_rng2, eI_cons, eS_nil, eS_cons, eS_set, eS_unp, eS_sti, eS_ex, eS_ifs, eS_whl, eS_fors, eS_brk, eS_cnt, eS_pas, eS_retv, eS_ret_non, eS_ret_bl, eS_ret_int, eS_ret_str, eS_ret_glb, eS_ret_bin, eS_ret_neg, eS_ret_not, eS_ret_cmp, eS_ret_chain, eS_ret_and, eS_ret_or, eS_ret_ife, eS_ret_sub, eS_ret_slc, eS_ret_rev, eS_ret_tup, eS_ret_lst, eS_ret_call, eS_ret_prim, eS_ret_isi, eS_ret_comp, eS_ret_app, eS_ret_ext, eS_ret_pop, lpS_nil, lpS_cons, cmS_nil, cmS_cons, rdO, rdS, rdAll, frz, valsOf, argsOf, slotsOf, putBack, subD, slD, prD, seqD, asg, asgs, bopD, copD, eqD, truS, List.mapIdx_cons, List.mapIdx_nil, List.getElem?_cons_zero, List.getElem?_cons_succ, List.set_cons_zero, List.set_cons_succ, List.length_cons, List.length_nil, List.cons_append, List.nil_append, List.replicate_zero, List.replicate_succ, List.append_nil, List.nodup_nil, List.nodup_cons, List.not_mem_nil, Nat.sub_self, Nat.add_one_sub_one, Nat.zero_lt_succ, if_true, if_false, eq_self_iff_true, reduceIte, reduceCtorEq, Nat.zero_le, slv, not_false_eq_true, and_self, and_true, true_and, List.singleton_append, Bool.not_true, Bool.not_false, List.foldl_nil, ite_true, ite_false, beq_self_eq_true, Nat.reduceAdd, Nat.reduceLT, Nat.reduceLeDiff, Nat.reduceSub, Nat.reduceEqDiff, Nat.reduceMul, Int.reduceAdd, Int.reduceLT, Int.reduceLE, Int.reduceNeg, Int.reduceEq, Int.reduceSub, decide_true, decide_false, decide_eq_true_eq, cond_true, cond_false, l, parts_inn k, e, List.append_assoc]⟩
      | ife t a b r iha ihb ih =>
        intro z s1 s2 acc ok hk hw
        simp only [okB, Bool.and_eq_true] at ok
        simp only [dep] at hk
        simp only [wt] at hw
        have l : acc.length < 16777216 := by omega
        have la := num_len a
        have lb := num_len b
        have ea := adds_ok k a (acc ++ [.tuple [.str "if", t, .tuple (enc a), .tuple (enc b)]]) ok.1.1.2 (by omega) (by simp only [List.length_append, List.length_cons, List.length_nil]; omega)
        have eb := adds_ok k b (acc ++ [.tuple [.str "if", t, .tuple (enc a), .tuple (enc b)]] ++ num a) ok.1.2 (by omega) (by simp only [List.length_append, List.length_cons, List.length_nil]; omega)
        obtain ⟨u, v, e⟩ := ih z (.val (.tuple [.str "if", t, .tuple (enc a), .tuple (enc b)])) (.val (.tuple (enc b))) (acc ++ [.tuple [.str "if", t, .tuple (enc a), .tuple (enc b)]] ++ num a ++ num b) ok.2 (by omega) (by simp only [List.length_append, List.length_cons, List.length_nil]; omega)
        simp only [List.append_assoc, List.cons_append, List.nil_append] at ea eb e
        exact ⟨u, v, by simp only [enc, num, runF, tagA, outsA, oXt_non, oXf_non, oXt_bl, oXf_bl, oXt_int, oXf_int, oXt_str, oXf_str, oXt_glb, oXf_glb, oXt_bin, oXf_bin, oXt_neg, oXf_neg, oXt_not, oXf_not, oXt_cmp, oXf_cmp, oXt_chain, oXf_chain, oXt_and, oXf_and, oXt_or, oXf_or, oXt_ife, oXf_ife, oXt_sub, oXf_sub, oXt_slc, oXf_slc, oXt_rev, oXf_rev, oXt_tup, oXf_tup, oXt_lst, oXf_lst, oXt_call, oXf_call, oXt_prim, oXf_prim, oXt_isi, oXf_isi, oXt_comp, oXf_comp, oXt_app, oXf_app, oXt_ext, oXf_ext, oXt_pop, oXf_pop, oXf_var, oXt_var, oX_lend, eX_var, eX_non, eX_bl, eX_int, eX_str, eX_glb, eX_bin, eX_neg, eX_not, eX_cmp, eX_chain, eX_and, eX_or, eX_ife, eX_sub, eX_slc, eX_rev, eX_tup, eX_lst, eX_call, eX_prim, eX_isi, eX_comp, eX_app, eX_ext, eX_pop, eP_nil, eP_cons, eL_nil, eL_cons, eI_rng1, eI_rng2, eI_cons, eS_nil, eS_cons, eS_set, eS_unp, eS_sti, eS_ex, eS_ifs, eS_whl, eS_fors, eS_brk, eS_cnt, eS_pas, eS_retv, eS_ret_non, eS_ret_bl, eS_ret_int, eS_ret_str, eS_ret_glb, eS_ret_bin, eS_ret_neg, eS_ret_not, eS_ret_cmp, eS_ret_chain, eS_ret_and, eS_ret_or, eS_ret_ife, eS_ret_sub, eS_ret_slc, eS_ret_rev, eS_ret_tup, eS_ret_lst, eS_ret_call, eS_ret_prim, eS_ret_isi, eS_ret_comp, eS_ret_app, eS_ret_ext, eS_ret_pop, lpS_nil, lpS_cons, cmS_nil, cmS_cons, rdO, rdS, rdAll, frz, valsOf, argsOf, slotsOf, putBack, subD, slD, prD, seqD, asg, asgs, bopD, copD, eqD, truS, List.mapIdx_cons, List.mapIdx_nil, List.getElem?_cons_zero, List.getElem?_cons_succ, List.set_cons_zero, List.set_cons_succ, List.length_cons, List.length_nil, List.cons_append, List.nil_append, List.replicate_zero, List.replicate_succ, List.append_nil, List.nodup_nil, List.nodup_cons, List.not_mem_nil, Nat.sub_self, Nat.add_one_sub_one, Nat.zero_lt_succ, if_true, if_false, eq_self_iff_true, reduceIte, reduceCtorEq, Nat.zero_le, slv, not_false_eq_true, and_self, and_true, true_and, List.singleton_append, Bool.not_true, Bool.not_false, List.foldl_nil, ite_true, ite_false, beq_self_eq_true, Nat.reduceAdd, Nat.reduceLT, Nat.reduceLeDiff, Nat.reduceSub, Nat.reduceEqDiff, Nat.reduceMul, Int.reduceAdd, Int.reduceLT, Int.reduceLE, Int.reduceNeg, Int.reduceEq, Int.reduceSub, decide_true, decide_false, decide_eq_true_eq, cond_true, cond_false, l, parts_if, ea, eb, e, List.append_assoc]⟩
      | whl t a r iha ih =>
        intro z s1 s2 acc ok hk hw
        simp only [okB, Bool.and_eq_true] at ok
        simp only [dep] at hk
        simp only [wt] at hw
        have l : acc.length < 16777216 := by omega
        have la := num_len a
        have ea := adds_ok k a (acc ++ [.tuple [.str "while", t, .tuple (enc a)]]) ok.1.2 (by omega) (by simp only [List.length_append, List.length_cons, List.length_nil]; omega)
        obtain ⟨u, v, e⟩ := ih z (.val (.tuple [.str "while", t, .tuple (enc a)])) (.val (.tuple (enc a))) (acc ++ [.tuple [.str "while", t, .tuple (enc a)]] ++ num a) ok.2 (by omega) (by simp only [List.length_append, List.length_cons, List.length_nil]; omega)
        simp only [List.append_assoc, List.cons_append, List.nil_append] at ea e
        exact ⟨u, v, by simp only [enc, num, runF, tagA, outsA, oXt_non, oXf_non, oXt_bl, oXf_bl, oXt_int, oXf_int, oXt_str, oXf_str, oXt_glb, oXf_glb, oXt_bin, oXf_bin, oXt_neg, oXf_neg, oXt_not, oXf_not, oXt_cmp, oXf_cmp, oXt_chain, oXf_chain, oXt_and, oXf_and, oXt_or, oXf_or, oXt_ife, oXf_ife, oXt_sub, oXf_sub, oXt_slc, oXf_slc, oXt_rev, oXf_rev, oXt_tup, oXf_tup, oXt_lst, oXf_lst, oXt_call, oXf_call, oXt_prim, oXf_prim, oXt_isi, oXf_isi, oXt_comp, oXf_comp, oXt_app, oXf_app, oXt_ext, oXf_ext, oXt_pop, oXf_pop, oXf_var, oXt_var, oX_lend, eX_var, eX_non, eX_bl, eX_int, eX_str, eX_glb, eX_bin, eX_neg, eX_not, eX_cmp, eX_chain, eX_and, eX_or, eX_ife, eX_sub, eX_slc, eX_rev, eX_tup, eX_lst, eX_call, eX_prim, eX_isi, eX_comp, eX_app, eX_ext, eX_pop, eP_nil, eP_cons, eL_nil, eL_cons, eI_rng1, eI_rng2, eI_cons, eS_nil, eS_cons, eS_set, eS_unp, eS_sti, eS_ex, eS_ifs, eS_whl, eS_fors, eS_brk, eS_cnt, eS_pas, eS_retv, eS_ret_non, eS_ret_bl, eS_ret_int, eS_ret_str, eS_ret_glb, eS_ret_bin, eS_ret_neg, eS_ret_not, eS_ret_cmp, eS_ret_chain, eS_ret_and, eS_ret_or, eS_ret_ife, eS_ret_sub, eS_ret_slc, eS_ret_rev, eS_ret_tup, eS_ret_lst, eS_ret_call, eS_ret_prim, eS_ret_isi, eS_ret_comp, eS_ret_app, eS_ret_ext, eS_ret_pop, lpS_nil, lpS_cons, cmS_nil, cmS_cons, rdO, rdS, rdAll, frz, valsOf, argsOf, slotsOf, putBack, subD, slD, prD, seqD, asg, asgs, bopD, copD, eqD, truS, List.mapIdx_cons, List.mapIdx_nil, List.getElem?_cons_zero, List.getElem?_cons_succ, List.set_cons_zero, List.set_cons_succ, List.length_cons, List.length_nil, List.cons_append, List.nil_append, List.replicate_zero, List.replicate_succ, List.append_nil, List.nodup_nil, List.nodup_cons, List.not_mem_nil, Nat.sub_self, Nat.add_one_sub_one, Nat.zero_lt_succ, if_true, if_false, eq_self_iff_true, reduceIte, reduceCtorEq, Nat.zero_le, slv, not_false_eq_true, and_self, and_true, true_and, List.singleton_append, Bool.not_true, Bool.not_false, List.foldl_nil, ite_true, ite_false, beq_self_eq_true, Nat.reduceAdd, Nat.reduceLT, Nat.reduceLeDiff, Nat.reduceSub, Nat.reduceEqDiff, Nat.reduceMul, Int.reduceAdd, Int.reduceLT, Int.reduceLE, Int.reduceNeg, Int.reduceEq, Int.reduceSub, decide_true, decide_false, decide_eq_true_eq, cond_true, cond_false, l, parts_while, ea, e, List.append_assoc]⟩
    obtain ⟨u, v, e⟩ := L b (.val (.tuple (enc b))) .un .un acc ok hk hw
    rw [run6]
    simp only [runF, tagA, outsA, oXt_non, oXf_non, oXt_bl, oXf_bl, oXt_int, oXf_int, oXt_str, oXf_str, oXt_glb, oXf_glb, oXt_bin, oXf_bin, oXt_neg, oXf_neg, oXt_not, oXf_not, oXt_cmp, oXf_cmp, oXt_chain, oXf_chain, oXt_and, oXf_and, oXt_or, oXf_or, oXt_ife, oXf_ife, oXt_sub, oXf_sub, oXt_slc, oXf_slc, oXt_rev, oXf_rev, oXt_tup, oXf_tup, oXt_lst, oXf_lst, oXt_call, oXf_call, oXt_prim, oXf_prim, oXt_isi, oXf_isi, oXt_comp, oXf_comp, oXt_app, oXf_app, oXt_ext, oXf_ext, oXt_pop, oXf_pop, oXf_var, oXt_var, oX_lend, eX_var, eX_non, eX_bl, eX_int, eX_str, eX_glb, eX_bin, eX_neg, eX_not, eX_cmp, eX_chain, eX_and, eX_or, eX_ife, eX_sub, eX_slc, eX_rev, eX_tup, eX_lst, eX_call, eX_prim, eX_isi, eX_comp, eX_app, eX_ext, eX_pop, eP_nil, eP_cons, eL_nil, eL_cons, eI_rng1, eI_rng2, eI_cons, eS_nil, eS_cons, eS_set, eS_unp, eS_sti, eS_ex, eS_ifs, eS_whl, eS_fors, eS_brk, eS_cnt, eS_pas, eS_retv, eS_ret_non, eS_ret_bl, eS_ret_int, eS_ret_str, eS_ret_glb, eS_ret_bin, eS_ret_neg, eS_ret_not, eS_ret_cmp, eS_ret_chain, eS_ret_and, eS_ret_or, eS_ret_ife, eS_ret_sub, eS_ret_slc, eS_ret_rev, eS_ret_tup, eS_ret_lst, eS_ret_call, eS_ret_prim, eS_ret_isi, eS_ret_comp, eS_ret_app, eS_ret_ext, eS_ret_pop, lpS_nil, lpS_cons, cmS_nil, cmS_cons, rdO, rdS, rdAll, frz, valsOf, argsOf, slotsOf, putBack, subD, slD, prD, seqD, asg, asgs, bopD, copD, eqD, truS, List.mapIdx_cons, List.mapIdx_nil, List.getElem?_cons_zero, List.getElem?_cons_succ, List.set_cons_zero, List.set_cons_succ, List.length_cons, List.length_nil, List.cons_append, List.nil_append, List.replicate_zero, List.replicate_succ, List.append_nil, List.nodup_nil, List.nodup_cons, List.not_mem_nil, Nat.sub_self, Nat.add_one_sub_one, Nat.zero_lt_succ, if_true, if_false, eq_self_iff_true, reduceIte, reduceCtorEq, Nat.zero_le, slv, not_false_eq_true, and_self, and_true, true_and, List.singleton_append, Bool.not_true, Bool.not_false, List.foldl_nil, ite_true, ite_false, beq_self_eq_true, Nat.reduceAdd, Nat.reduceLT, Nat.reduceLeDiff, Nat.reduceSub, Nat.reduceEqDiff, Nat.reduceMul, Int.reduceAdd, Int.reduceLT, Int.reduceLE, Int.reduceNeg, Int.reduceEq, Int.reduceSub, decide_true, decide_false, decide_eq_true_eq, cond_true, cond_false, e]
theorem num_ok (k : Nat) (b : Blk) (ok : okB b = true) (hk : dep b ≤ k) (hw : wt b ≤ 100000) : fnK rs gl0 (k + 2) 5 [.val (.tuple (enc b))] = some (.own none (num b), [.un]) := by
  rw [run5]
  simp only [runF, tagA, outsA, oXt_non, oXf_non, oXt_bl, oXf_bl, oXt_int, oXf_int, oXt_str, oXf_str, oXt_glb, oXf_glb, oXt_bin, oXf_bin, oXt_neg, oXf_neg, oXt_not, oXf_not, oXt_cmp, oXf_cmp, oXt_chain, oXf_chain, oXt_and, oXf_and, oXt_or, oXf_or, oXt_ife, oXf_ife, oXt_sub, oXf_sub, oXt_slc, oXf_slc, oXt_rev, oXf_rev, oXt_tup, oXf_tup, oXt_lst, oXf_lst, oXt_call, oXf_call, oXt_prim, oXf_prim, oXt_isi, oXf_isi, oXt_comp, oXf_comp, oXt_app, oXf_app, oXt_ext, oXf_ext, oXt_pop, oXf_pop, oXf_var, oXt_var, oX_lend, eX_var, eX_non, eX_bl, eX_int, eX_str, eX_glb, eX_bin, eX_neg, eX_not, eX_cmp, eX_chain, eX_and, eX_or, eX_ife, eX_sub, eX_slc, eX_rev, eX_tup, eX_lst, eX_call, eX_prim, eX_isi, eX_comp, eX_app, eX_ext, eX_pop, eP_nil, eP_cons, eL_nil, eL_cons, eI_rng1, eI_rng2, eI_cons, eS_nil, eS_cons, eS_set, eS_unp, eS_sti, eS_ex, eS_ifs, eS_whl, eS_fors, eS_brk, eS_cnt, eS_pas, eS_retv, eS_ret_non, eS_ret_bl, eS_ret_int, eS_ret_str, eS_ret_glb, eS_ret_bin, eS_ret_neg, eS_ret_not, eS_ret_cmp, eS_ret_chain, eS_ret_and, eS_ret_or, eS_ret_ife, eS_ret_sub, eS_ret_slc, eS_ret_rev, eS_ret_tup, eS_ret_lst, eS_ret_call, eS_ret_prim, eS_ret_isi, eS_ret_comp, eS_ret_app, eS_ret_ext, eS_ret_pop, lpS_nil, lpS_cons, cmS_nil, cmS_cons, rdO, rdS, rdAll, frz, valsOf, argsOf, slotsOf, putBack, subD, slD, prD, seqD, asg, asgs, bopD, copD, eqD, truS, List.mapIdx_cons, List.mapIdx_nil, List.getElem?_cons_zero, List.getElem?_cons_succ, List.set_cons_zero, List.set_cons_succ, List.length_cons, List.length_nil, List.cons_append, List.nil_append, List.replicate_zero, List.replicate_succ, List.append_nil, List.nodup_nil, List.nodup_cons, List.not_mem_nil, Nat.sub_self, Nat.add_one_sub_one, Nat.zero_lt_succ, if_true, if_false, eq_self_iff_true, reduceIte, reduceCtorEq, Nat.zero_le, slv, not_false_eq_true, and_self, and_true, true_and, List.singleton_append, Bool.not_true, Bool.not_false, List.foldl_nil, ite_true, ite_false, beq_self_eq_true, Nat.reduceAdd, Nat.reduceLT, Nat.reduceLeDiff, Nat.reduceSub, Nat.reduceEqDiff, Nat.reduceMul, Int.reduceAdd, Int.reduceLT, Int.reduceLE, Int.reduceNeg, Int.reduceEq, Int.reduceSub, decide_true, decide_false, decide_eq_true_eq, cond_true, cond_false, adds_ok k b [] ok hk (by simp only [List.length_nil]; omega)]
theorem mxN (d a : Nat) : (if (1 : Int) + (a : Int) > (d : Int) then (1 : Int) + (a : Int) else (d : Int)) = ((max d (1 + a) : Nat) : Int) := by
  by_cases h : (1 : Int) + (a : Int) > (d : Int)
  · rw [if_pos h]; omega
  · rw [if_neg h]; omega
theorem dep_ok : ∀ (k : Nat) (b : Blk), okB b = true → dep b ≤ k → fnK rs gl0 (k + 1) 10 [.val (.tuple (enc b))] = some (.val (.int (dep b)), [.un])
  | 0, b, _, h => absurd (dep_pos b) (by omega)
  | k + 1, b, ok, hk => by
    have L : ∀ b z (d : Nat) s1 s2, okB b = true → dep b ≤ k + 1 → 1 ≤ d → ∃ s1' s2', lpS ⟨fnK rs gl0 (k + 1), gl0⟩ (.var 2) (.cons (.fors (.var 3) (.cons (.call 0 (.cons (.var 2) .nil)) .nil) (.cons (.set 1 false (.prim .max (.cons (.var 1) (.cons (.bin .add (.int 1) (.call 10 (.cons (.var 3) .nil))) .nil)))) .nil)) .nil) (enc b) [z, .val (.int d), s1, s2] = some (.nx [z, .val (.int ((max d (dep b) : Nat))), s1', s2']) := by
      intro b
      induction b with
      | nil => intro z d s1 s2 _ _ h; exact ⟨s1, s2, by simp only [enc, dep, runF, tagA, outsA, oXt_non, oXf_non, oXt_bl, oXf_bl, oXt_int, oXf_int, oXt_str, oXf_str, oXt_glb, oXf_glb, oXt_bin, oXf_bin, oXt_neg, oXf_neg, oXt_not, oXf_not, oXt_cmp, oXf_cmp, oXt_chain, oXf_chain, oXt_and, oXf_and, oXt_or, oXf_or, oXt_ife, oXf_ife, oXt_sub, oXf_sub, oXt_slc, oXf_slc, oXt_rev, oXf_rev, oXt_tup, oXf_tup, oXt_lst, oXf_lst, oXt_call, oXf_call, oXt_prim, oXf_prim, oXt_isi, oXf_isi, oXt_comp, oXf_comp, oXt_app, oXf_app, oXt_ext, oXf_ext, oXt_pop, oXf_pop, oXf_var, oXt_var, oX_lend, eX_var, eX_non, eX_bl, eX_int, eX_str, eX_glb, eX_bin, eX_neg, eX_not, eX_cmp, eX_chain, eX_and, eX_or, eX_ife, eX_sub, eX_slc, eX_rev, eX_tup, eX_lst, eX_call, eX_prim, eX_isi, eX_comp, eX_app, eX_ext, eX_pop, eP_nil, eP_cons, eL_nil, eL_cons, eI_rng1, eI_rng2, eI_cons, eS_nil, eS_cons, eS_set, eS_unp, eS_sti, eS_ex, eS_ifs, eS_whl, eS_fors, eS_brk, eS_cnt, eS_pas, eS_retv, eS_ret_non, eS_ret_bl, eS_ret_int, eS_ret_str, eS_ret_glb, eS_ret_bin, eS_ret_neg, eS_ret_not, eS_ret_cmp, eS_ret_chain, eS_ret_and, eS_ret_or, eS_ret_ife, eS_ret_sub, eS_ret_slc, eS_ret_rev, eS_ret_tup, eS_ret_lst, eS_ret_call, eS_ret_prim, eS_ret_isi, eS_ret_comp, eS_ret_app, eS_ret_ext, eS_ret_pop, lpS_nil, lpS_cons, cmS_nil, cmS_cons, rdO, rdS, rdAll, frz, valsOf, argsOf, slotsOf, putBack, subD, slD, prD, seqD, asg, asgs, bopD, copD, eqD, truS, List.mapIdx_cons, List.mapIdx_nil, List.getElem?_cons_zero, List.getElem?_cons_succ, List.set_cons_zero, List.set_cons_succ, List.length_cons, List.length_nil, List.cons_append, List.nil_append, List.replicate_zero, List.replicate_succ, List.append_nil, List.nodup_nil, List.nodup_cons, List.not_mem_nil, Nat.sub_self, Nat.add_one_sub_one, Nat.zero_lt_succ, if_true, if_false, eq_self_iff_true, reduceIte, reduceCtorEq, Nat.zero_le, slv, not_false_eq_true, and_self, and_true, true_and, List.singleton_append, Bool.not_true, Bool.not_false, List.foldl_nil, ite_true, ite_false, beq_self_eq_true, Nat.reduceAdd, Nat.reduceLT, Nat.reduceLeDiff, Nat.reduceSub, Nat.reduceEqDiff, Nat.reduceMul, Int.reduceAdd, Int.reduceLT, Int.reduceLE, Int.reduceNeg, Int.reduceEq, Int.reduceSub, decide_true, decide_false, decide_eq_true_eq, cond_true, cond_false, Nat.max_eq_left h]⟩
      | simp h xs r ih =>
        intro z d s1 s2 ok hk h1
        simp only [okB, Bool.and_eq_true] at ok
        obtain ⟨u, v, e⟩ := ih z d (.val (.tuple (.str h :: xs))) s2 ok.2 hk h1
        exact ⟨u, v, by simp only [enc, dep, runF, tagA, outsA, oXt_non, oXf_non, oXt_bl, oXf_bl, oXt_int, oXf_int, oXt_str, oXf_str, oXt_glb, oXf_glb, oXt_bin, oXf_bin, oXt_neg, oXf_neg, oXt_not, oXf_not, oXt_cmp, oXf_cmp, oXt_chain, oXf_chain, oXt_and, oXf_and, oXt_or, oXf_or, oXt_ife, oXf_ife, oXt_sub, oXf_sub, oXt_slc, oXf_slc, oXt_rev, oXf_rev, oXt_tup, oXf_tup, oXt_lst, oXf_lst, oXt_call, oXf_call, oXt_prim, oXf_prim, oXt_isi, oXf_isi, oXt_comp, oXf_comp, oXt_app, oXf_app, oXt_ext, oXf_ext, oXt_pop, oXf_pop, oXf_var, oXt_var, oX_lend, eX_var, eX_non, eX_bl, eX_int, eX_str, eX_glb, eX_bin, eX_neg, eX_not, eX_cmp, eX_chain, eX_and, eX_or, eX_ife, eX_sub, eX_slc, eX_rev, eX_tup, eX_lst, eX_call, eX_prim, eX_isi, eX_comp, eX_app, eX_ext, eX_pop, eP_nil, eP_cons, eL_nil, eL_cons, eI_rng1, eI_rng2, eI_cons, eS_nil, eS_cons, eS_set, eS_unp, eS_sti, eS_ex, eS_ifs, eS_whl, eS_fors, eS_brk, eS_cnt, eS_pas, eS_retv, eS_ret_non, eS_ret_bl, eS_ret_int, eS_ret_str, eS_ret_glb, eS_ret_bin, eS_ret_neg, eS_ret_not, eS_ret_cmp, eS_ret_chain, eS_ret_and, eS_ret_or, eS_ret_ife, eS_ret_sub, eS_ret_slc, eS_ret_rev, eS_ret_tup, eS_ret_lst, eS_ret_call, eS_ret_prim, eS_ret_isi, eS_ret_comp, eS_ret_app, eS_ret_ext, eS_ret_pop, lpS_nil, lpS_cons, cmS_nil, cmS_cons, rdO, rdS, rdAll, frz, valsOf, argsOf, slotsOf, putBack, subD, slD, prD, seqD, asg, asgs, bopD, copD, eqD, truS, List.mapIdx_cons, List.mapIdx_nil, List.getElem?_cons_zero, List.getElem?_cons_succ, List.set_cons_zero, List.set_cons_succ, List.length_cons, List.length_nil, List.cons_append, List.nil_append, List.replicate_zero, List.replicate_succ, List.append_nil, List.nodup_nil, List.nodup_cons, List.not_mem_nil, Nat.sub_self, Nat.add_one_sub_one, Nat.zero_lt_succ, if_true, if_false, eq_self_iff_true, reduceIte, reduceCtorEq, Nat.zero_le, slv, not_false_eq_true, and_self, and_true, true_and, List.singleton_append, Bool.not_true, Bool.not_false, List.foldl_nil, ite_true, ite_false, beq_self_eq_true, Nat.reduceAdd, Nat.reduceLT, Nat.reduceLeDiff, Nat.reduceSub, Nat.reduceEqDiff, Nat.reduceMul, Int.reduceAdd, Int.reduceLT, Int.reduceLE, Int.reduceNeg, Int.reduceEq, Int.reduceSub, decide_true, decide_false, decide_eq_true_eq, cond_true, cond_false, parts_simp k (okS_hd ok.1), e]⟩
      | inner r ih =>
        intro z d s1 s2 ok hk h1
        obtain ⟨u, v, e⟩ := ih z d (.val inn) s2 ok hk h1
        exact ⟨u, v, by simp only [enc, dep, runF, tagA, outsA, oXt_non, oXf_non, oXt_bl, oXf_bl, oXt_int, oXf_int, oXt_str, oXf_str, oXt_glb, oXf_glb, oXt_bin, oXf_bin, oXt_neg, oXf_neg, oXt_not, oXf_not, oXt_cmp, oXf_cmp, oXt_chain, oXf_chain, oXt_and, oXf_and, oXt_or, oXf_or, oXt_ife, oXf_ife, oXt_sub, oXf_sub, oXt_slc, oXf_slc, oXt_rev, oXf_rev, oXt_tup, oXf_tup, oXt_lst, oXf_lst, oXt_call, oXf_call, oXt_prim, oXf_prim, oXt_isi, oXf_isi, oXt_comp, oXf_comp, oXt_app, oXf_app, oXt_ext, oXf_ext, oXt_pop, oXf_pop, oXf_var, oXt_var, oX_lend, eX_var, eX_non, eX_bl, eX_int, eX_str, eX_glb, eX_bin, eX_neg, eX_not, eX_cmp, eX_chain, eX_and, eX_or, eX_ife, eX_sub, eX_slc, eX_rev, eX_tup, eX_lst, eX_call, eX_prim, eX_isi, eX_comp, eX_app, eX_ext, eX_pop, eP_nil, eP_cons, eL_nil, eL_cons, eI_rng1, eI_rng2, eI_cons, eS_nil, eS_cons, eS_set, eS_unp, eS_sti, eS_ex, eS_ifs, eS_whl, eS_fors, eS_brk, eS_cnt, eS_pas, eS_retv, eS_ret_non, eS_ret_bl, eS_ret_int, eS_ret_str, eS_ret_glb, eS_ret_bin, eS_ret_neg, eS_ret_not, eS_ret_cmp, eS_ret_chain, eS_ret_and, eS_ret_or, eS_ret_ife, eS_ret_sub, eS_ret_slc, eS_ret_rev, eS_ret_tup, eS_ret_lst, eS_ret_call, eS_ret_prim, eS_ret_isi, eS_ret_comp, eS_ret_app, eS_ret_ext, eS_ret_pop, lpS_nil, lpS_cons, cmS_nil, cmS_cons, rdO, rdS, rdAll, frz, valsOf, argsOf, slotsOf, putBack, subD, slD, prD, seqD, asg, asgs, bopD, copD, eqD, truS, List.mapIdx_cons, List.mapIdx_nil, List.getElem?_cons_zero, List.getElem?_cons_succ, List.set_cons_zero, List.set_cons_succ, List.length_cons, List.length_nil, List.cons_append, List.nil_append, List.replicate_zero, List.replicate_succ, List.append_nil, List.nodup_nil, List.nodup_cons, List.not_mem_nil, Nat.sub_self, Nat.add_one_sub_one, Nat.zero_lt_succ, if_true, if_false, eq_self_iff_true, reduceIte, reduceCtorEq, Nat.zero_le, slv, not_false_eq_true, and_self, and_true, true_and, List.singleton_append, Bool.not_true, Bool.not_false, List.foldl_nil, ite_true, ite_false, beq_self_eq_true, Nat.reduceAdd, Nat.reduceLT, Nat.reduceLeDiff, Nat.reduceSub, Nat.reduceEqDiff, Nat.reduceMul, Int.reduceAdd, Int.reduceLT, Int.reduceLE, Int.reduceNeg, Int.reduceEq, Int.reduceSub, decide_true, decide_false, decide_eq_true_eq, cond_true, cond_false, parts_inn k, e]⟩
      | ife t a b r iha ihb ih =>
        intro z d s1 s2 ok hk h1
        simp only [okB, Bool.and_eq_true] at ok
        simp only [dep] at hk
        have ea := dep_ok k a ok.1.1.2 (by omega)
        have eb := dep_ok k b ok.1.2 (by omega)
        obtain ⟨u, v, e⟩ := ih z (max (max d (1 + dep a)) (1 + dep b)) (.val (.tuple [.str "if", t, .tuple (enc a), .tuple (enc b)])) (.val (.tuple (enc b))) ok.2 (by omega) (by omega)
        rw [show max (max (max d (1 + dep a)) (1 + dep b)) (dep r) = max d (max (dep r) (max (1 + dep a) (1 + dep b))) by omega] at e
        exact ⟨u, v, by simp only [enc, dep, runF, tagA, outsA, oXt_non, oXf_non, oXt_bl, oXf_bl, oXt_int, oXf_int, oXt_str, oXf_str, oXt_glb, oXf_glb, oXt_bin, oXf_bin, oXt_neg, oXf_neg, oXt_not, oXf_not, oXt_cmp, oXf_cmp, oXt_chain, oXf_chain, oXt_and, oXf_and, oXt_or, oXf_or, oXt_ife, oXf_ife, oXt_sub, oXf_sub, oXt_slc, oXf_slc, oXt_rev, oXf_rev, oXt_tup, oXf_tup, oXt_lst, oXf_lst, oXt_call, oXf_call, oXt_prim, oXf_prim, oXt_isi, oXf_isi, oXt_comp, oXf_comp, oXt_app, oXf_app, oXt_ext, oXf_ext, oXt_pop, oXf_pop, oXf_var, oXt_var, oX_lend, eX_var, eX_non, eX_bl, eX_int, eX_str, eX_glb, eX_bin, eX_neg, eX_not, eX_cmp, eX_chain, eX_and, eX_or, eX_ife, eX_sub, eX_slc, eX_rev, eX_tup, eX_lst, eX_call, eX_prim, eX_isi, eX_comp, eX_app, eX_ext, eX_pop, eP_nil, eP_cons, eL_nil, eL_cons, eI_rng1, eI_rng2, eI_cons, eS_nil, eS_cons, eS_set, eS_unp, eS_sti, eS_ex, eS_ifs, eS_whl, eS_fors, eS_brk, eS_cnt, eS_pas, eS_retv, eS_ret_non, eS_ret_bl, eS_ret_int, eS_ret_str, eS_ret_glb, eS_ret_bin, eS_ret_neg, eS_ret_not, eS_ret_cmp, eS_ret_chain, eS_ret_and, eS_ret_or, eS_ret_ife, eS_ret_sub, eS_ret_slc, eS_ret_rev, eS_ret_tup, eS_ret_lst, eS_ret_call, eS_ret_prim, eS_ret_isi, eS_ret_comp, eS_ret_app, eS_ret_ext, eS_ret_pop, lpS_nil, lpS_cons, cmS_nil, cmS_cons, rdO, rdS, rdAll, frz, valsOf, argsOf, slotsOf, putBack, subD, slD, prD, seqD, asg, asgs, bopD, copD, eqD, truS, List.mapIdx_cons, List.mapIdx_nil, List.getElem?_cons_zero, List.getElem?_cons_succ, List.set_cons_zero, List.set_cons_succ, List.length_cons, List.length_nil, List.cons_append, List.nil_append, List.replicate_zero, List.replicate_succ, List.append_nil, List.nodup_nil, List.nodup_cons, List.not_mem_nil, Nat.sub_self, Nat.add_one_sub_one, Nat.zero_lt_succ, if_true, if_false, eq_self_iff_true, reduceIte, reduceCtorEq, Nat.zero_le, slv, not_false_eq_true, and_self, and_true, true_and, List.singleton_append, Bool.not_true, Bool.not_false, List.foldl_nil, ite_true, ite_false, beq_self_eq_true, Nat.reduceAdd, Nat.reduceLT, Nat.reduceLeDiff, Nat.reduceSub, Nat.reduceEqDiff, Nat.reduceMul, Int.reduceAdd, Int.reduceLT, Int.reduceLE, Int.reduceNeg, Int.reduceEq, Int.reduceSub, decide_true, decide_false, decide_eq_true_eq, cond_true, cond_false, parts_if, ea, eb, mxN, e]⟩
      | whl t a r iha ih =>
        intro z d s1 s2 ok hk h1
        simp only [okB, Bool.and_eq_true] at ok
        simp only [dep] at hk
        have ea := dep_ok k a ok.1.2 (by omega)
        obtain ⟨u, v, e⟩ := ih z (max d (1 + dep a)) (.val (.tuple [.str "while", t, .tuple (enc a)])) (.val (.tuple (enc a))) ok.2 (by omega) (by omega)
        rw [show max (max d (1 + dep a)) (dep r) = max d (max (dep r) (1 + dep a)) by omega] at e
        exact ⟨u, v, by simp only [enc, dep, runF, tagA, outsA, oXt_non, oXf_non, oXt_bl, oXf_bl, oXt_int, oXf_int, oXt_str, oXf_str, oXt_glb, oXf_glb, oXt_bin, oXf_bin, oXt_neg, oXf_neg, oXt_not, oXf_not, oXt_cmp, oXf_cmp, oXt_chain, oXf_chain, oXt_and, oXf_and, oXt_or, oXf_or, oXt_ife, oXf_ife, oXt_sub, oXf_sub, oXt_slc, oXf_slc, oXt_rev, oXf_rev, oXt_tup, oXf_tup, oXt_lst, oXf_lst, oXt_call, oXf_call, oXt_prim, oXf_prim, oXt_isi, oXf_isi, oXt_comp, oXf_comp, oXt_app, oXf_app, oXt_ext, oXf_ext, oXt_pop, oXf_pop, oXf_var, oXt_var, oX_lend, eX_var, eX_non, eX_bl, eX_int, eX_str, eX_glb, eX_bin, eX_neg, eX_not, eX_cmp, eX_chain, eX_and, eX_or, eX_ife, eX_sub, eX_slc, eX_rev, eX_tup, eX_lst, eX_call, eX_prim, eX_isi, eX_comp, eX_app, eX_ext, eX_pop, eP_nil, eP_cons, eL_nil, eL_cons, eI_rng1, eI_rng2, eI_cons, eS_nil, eS_cons, eS_set, eS_unp, eS_sti, eS_ex, eS_ifs, eS_whl, eS_fors, eS_brk, eS_cnt, eS_pas, eS_retv, eS_ret_non, eS_ret_bl, eS_ret_int, eS_ret_str, eS_ret_glb, eS_ret_bin, eS_ret_neg, eS_ret_not, eS_ret_cmp, eS_ret_chain, eS_ret_and, eS_ret_or, eS_ret_ife, eS_ret_sub, eS_ret_slc, eS_ret_rev, eS_ret_tup, eS_ret_lst, eS_ret_call, eS_ret_prim, eS_ret_isi, eS_ret_comp, eS_ret_app, eS_ret_ext, eS_ret_pop, lpS_nil, lpS_cons, cmS_nil, cmS_cons, rdO, rdS, rdAll, frz, valsOf, argsOf, slotsOf, putBack, subD, slD, prD, seqD, asg, asgs, bopD, copD, eqD, truS, List.mapIdx_cons, List.mapIdx_nil, List.getElem?_cons_zero, List.getElem?_cons_succ, List.set_cons_zero, List.set_cons_succ, List.length_cons, List.length_nil, List.cons_append, List.nil_append, List.replicate_zero, List.replicate_succ, List.append_nil, List.nodup_nil, List.nodup_cons, List.not_mem_nil, Nat.sub_self, Nat.add_one_sub_one, Nat.zero_lt_succ, if_true, if_false, eq_self_iff_true, reduceIte, reduceCtorEq, Nat.zero_le, slv, not_false_eq_true, and_self, and_true, true_and, List.singleton_append, Bool.not_true, Bool.not_false, List.foldl_nil, ite_true, ite_false, beq_self_eq_true, Nat.reduceAdd, Nat.reduceLT, Nat.reduceLeDiff, Nat.reduceSub, Nat.reduceEqDiff, Nat.reduceMul, Int.reduceAdd, Int.reduceLT, Int.reduceLE, Int.reduceNeg, Int.reduceEq, Int.reduceSub, decide_true, decide_false, decide_eq_true_eq, cond_true, cond_false, parts_while, ea, mxN, e]⟩
    obtain ⟨u, v, e⟩ := L b (.val (.tuple (enc b))) 1 .un .un ok hk (Nat.le_refl 1)
    rw [Nat.max_eq_right (dep_pos b), show ((1 : Nat) : Int) = 1 from rfl] at e
    rw [run10]
    simp only [runF, tagA, outsA, oXt_non, oXf_non, oXt_bl, oXf_bl, oXt_int, oXf_int, oXt_str, oXf_str, oXt_glb, oXf_glb, oXt_bin, oXf_bin, oXt_neg, oXf_neg, oXt_not, oXf_not, oXt_cmp, oXf_cmp, oXt_chain, oXf_chain, oXt_and, oXf_and, oXt_or, oXf_or, oXt_ife, oXf_ife, oXt_sub, oXf_sub, oXt_slc, oXf_slc, oXt_rev, oXf_rev, oXt_tup, oXf_tup, oXt_lst, oXf_lst, oXt_call, oXf_call, oXt_prim, oXf_prim, oXt_isi, oXf_isi, oXt_comp, oXf_comp, oXt_app, oXf_app, oXt_ext, oXf_ext, oXt_pop, oXf_pop, oXf_var, oXt_var, oX_lend, eX_var, eX_non, eX_bl, eX_int, eX_str, eX_glb, eX_bin, eX_neg, eX_not, eX_cmp, eX_chain, eX_and, eX_or, eX_ife, eX_sub, eX_slc, eX_rev, eX_tup, eX_lst, eX_call, eX_prim, eX_isi, eX_comp, eX_app, eX_ext, eX_pop, eP_nil, eP_cons, eL_nil, eL_cons, eI_rng1, eI_rng2, eI_cons, eS_nil, eS_cons, eS_set, eS_unp, eS_sti, eS_ex, eS_ifs, eS_whl, eS_fors, eS_brk, eS_cnt, eS_pas, eS_retv, eS_ret_non, eS_ret_bl, eS_ret_int, eS_ret_str, eS_ret_glb, eS_ret_bin, eS_ret_neg, eS_ret_not, eS_ret_cmp, eS_ret_chain, eS_ret_and, eS_ret_or, eS_ret_ife, eS_ret_sub, eS_ret_slc, eS_ret_rev, eS_ret_tup, eS_ret_lst, eS_ret_call, eS_ret_prim, eS_ret_isi, eS_ret_comp, eS_ret_app, eS_ret_ext, eS_ret_pop, lpS_nil, lpS_cons, cmS_nil, cmS_cons, rdO, rdS, rdAll, frz, valsOf, argsOf, slotsOf, putBack, subD, slD, prD, seqD, asg, asgs, bopD, copD, eqD, truS, List.mapIdx_cons, List.mapIdx_nil, List.getElem?_cons_zero, List.getElem?_cons_succ, List.set_cons_zero, List.set_cons_succ, List.length_cons, List.length_nil, List.cons_append, List.nil_append, List.replicate_zero, List.replicate_succ, List.append_nil, List.nodup_nil, List.nodup_cons, List.not_mem_nil, Nat.sub_self, Nat.add_one_sub_one, Nat.zero_lt_succ, if_true, if_false, eq_self_iff_true, reduceIte, reduceCtorEq, Nat.zero_le, slv, not_false_eq_true, and_self, and_true, true_and, List.singleton_append, Bool.not_true, Bool.not_false, List.foldl_nil, ite_true, ite_false, beq_self_eq_true, Nat.reduceAdd, Nat.reduceLT, Nat.reduceLeDiff, Nat.reduceSub, Nat.reduceEqDiff, Nat.reduceMul, Int.reduceAdd, Int.reduceLT, Int.reduceLE, Int.reduceNeg, Int.reduceEq, Int.reduceSub, decide_true, decide_false, decide_eq_true_eq, cond_true, cond_false, e]
end Lw

set_option Elab.async false
set_option linter.all false
set_option maxRecDepth 100000
set_option maxHeartbeats 2000000
namespace Lw
open PySem PySem.Spec PyProof.Rows L2 Dv
/-! the table of what stands behind -/
abbrev Tb := List (Option Nat)
def oN : Option Nat → PD
  | none => .none
  | some n => .int n
def iN (n : Nat) : PD := .int n
def setW : Tb → List Nat → Option Nat → Tb
  | T, [], _ => T
  | T, w :: ws, v => setW (T.set (w - 1) v) ws v
def setO (T : Tb) (ws : List Nat) : Option Nat → Tb
  | none => T
  | some n => setW T ws (some n)
theorem setW_len : ∀ (ws : List Nat) (T : Tb) (v : Option Nat), (setW T ws v).length = T.length
  | [], T, v => rfl
  | w :: ws, T, v => by rw [setW, setW_len ws, List.length_set]
theorem setO_len (ws : List Nat) (T : Tb) (v : Option Nat) : (setO T ws v).length = T.length := by
  cases v with
  | none => rfl
  | some n => exact setW_len ws T _
theorem setW_app : ∀ (ws : List Nat) (T S : Tb) (v : Option Nat), (∀ w ∈ ws, 1 ≤ w ∧ w ≤ T.length) → setW (T ++ S) ws v = setW T ws v ++ S
  | [], T, S, v, _ => rfl
  | w :: ws, T, S, v, h => by
    have hw := h w (List.mem_cons_self ..)
    rw [setW, setW, List.set_append_left _ _ (by omega)]
    exact setW_app ws _ S v fun x hx => by rw [List.length_set]; exact h x (List.mem_cons_of_mem _ hx)
theorem setW_cat : ∀ (ws us : List Nat) (T : Tb) (v : Option Nat), setW T (ws ++ us) v = setW (setW T ws v) us v
  | [], us, T, v => rfl
  | w :: ws, us, T, v => by rw [List.cons_append, setW, setW, setW_cat ws us]
theorem setW_set : ∀ (ws : List Nat) (T : Tb) (i : Nat) (v : Option Nat), setW (T.set i v) ws v = (setW T ws v).set i v
  | [], T, i, v => rfl
  | w :: ws, T, i, v => by
    rw [setW, setW, ← setW_set ws (T.set (w - 1) v) i v]
    congr 1
    by_cases e : i = w - 1
    · subst e; rfl
    · rw [List.set_comm _ _ e]
theorem setW_swap : ∀ (ws us : List Nat) (T : Tb) (v : Option Nat), setW (setW T ws v) us v = setW (setW T us v) ws v
  | ws, [], T, v => rfl
  | ws, u :: us, T, v => by rw [setW, setW, ← setW_set, setW_swap ws us]
theorem setO_app (ws : List Nat) (T S : Tb) (v : Option Nat) (h : ∀ w ∈ ws, 1 ≤ w ∧ w ≤ T.length) : setO (T ++ S) ws v = setO T ws v ++ S := by
  cases v with
  | none => rfl
  | some n => exact setW_app ws T S _ h
theorem setO_cat (ws us : List Nat) (T : Tb) (v : Option Nat) : setO T (ws ++ us) v = setO (setO T ws v) us v := by
  cases v with
  | none => rfl
  | some n => exact setW_cat ws us T _
theorem setO_swap (ws us : List Nat) (T : Tb) (v : Option Nat) : setO (setO T ws v) us v = setO (setO T us v) ws v := by
  cases v with
  | none => rfl
  | some n => exact setW_swap ws us T _
theorem setO_one (T : Tb) (v : Option Nat) : setO (T ++ [none]) [T.length + 1] v = T ++ [v] := by
  cases v with
  | none => rfl
  | some n => simp [setO, setW]
/-- what the def makes -/
def runN : Blk → Tb → List Nat → Tb × List Nat
  | .nil, T, W => (T, W)
  | .simp _ _ r, T, W => runN r (setO (T ++ [none]) W (some (T.length + 1))) [T.length + 1]
  | .inner r, T, W => runN r (setO (T ++ [none]) W (some (T.length + 1))) [T.length + 1]
  | .ife _ a b r, T, W =>
    let p := runN a (setO (T ++ [none]) W (some (T.length + 1))) []
    let q := runN b p.1 []
    runN r q.1 ([T.length + 1] ++ p.2 ++ q.2)
  | .whl _ a r, T, W =>
    let p := runN a (setO (T ++ [none]) W (some (T.length + 1))) []
    runN r (setO p.1 p.2 (some (T.length + 1))) [T.length + 1]
def InT (T : Tb) (W : List Nat) : Prop := ∀ w ∈ W, 1 ≤ w ∧ w ≤ T.length
theorem inT_nil (T : Tb) : InT T [] := fun w h => by cases h
theorem inT_one {T : Tb} {n : Nat} (h : 1 ≤ n ∧ n ≤ T.length) : InT T [n] := fun w hw => by
  rcases List.mem_singleton.mp hw with rfl; exact h
theorem inT_app {T : Tb} {ws us : List Nat} (h : InT T ws) (h' : InT T us) : InT T (ws ++ us) := fun w hw => (List.mem_append.mp hw).elim (h w) (h' w)
theorem inT_up {T S : Tb} {ws : List Nat} (h : InT T ws) (l : T.length ≤ S.length) : InT S ws := fun w hw => ⟨(h w hw).1, Nat.le_trans (h w hw).2 l⟩
theorem runN_in : ∀ (b : Blk) (T : Tb) (W : List Nat), InT T W → (runN b T W).1.length = T.length + wt b ∧ InT (runN b T W).1 (runN b T W).2
  | .nil, T, W, h => ⟨rfl, h⟩
  | .simp _ _ r, T, W, h => by
    have l : (setO (T ++ [none]) W (some (T.length + 1))).length = T.length + 1 := by rw [setO_len]; simp
    have i := runN_in r (setO (T ++ [none]) W (some (T.length + 1))) [T.length + 1] (inT_one (by rw [l]; omega))
    simp only [runN, wt]
    exact ⟨by rw [i.1, l]; omega, i.2⟩
  | .inner r, T, W, h => by
    have l : (setO (T ++ [none]) W (some (T.length + 1))).length = T.length + 1 := by rw [setO_len]; simp
    have i := runN_in r (setO (T ++ [none]) W (some (T.length + 1))) [T.length + 1] (inT_one (by rw [l]; omega))
    simp only [runN, wt]
    exact ⟨by rw [i.1, l]; omega, i.2⟩
  | .ife _ a b r, T, W, h => by
    have l : (setO (T ++ [none]) W (some (T.length + 1))).length = T.length + 1 := by rw [setO_len]; simp
    have ia := runN_in a (setO (T ++ [none]) W (some (T.length + 1))) [] (inT_nil _)
    have ib := runN_in b (runN a (setO (T ++ [none]) W (some (T.length + 1))) []).1 [] (inT_nil _)
    have i := runN_in r (runN b (runN a (setO (T ++ [none]) W (some (T.length + 1))) []).1 []).1 ([T.length + 1] ++ (runN a (setO (T ++ [none]) W (some (T.length + 1))) []).2 ++ (runN b (runN a (setO (T ++ [none]) W (some (T.length + 1))) []).1 []).2)
      (inT_app (inT_app (inT_one (by omega)) (inT_up ia.2 (by omega))) ib.2)
    simp only [runN, wt]
    exact ⟨by omega, i.2⟩
  | .whl _ a r, T, W, h => by
    have l : (setO (T ++ [none]) W (some (T.length + 1))).length = T.length + 1 := by rw [setO_len]; simp
    have ia := runN_in a (setO (T ++ [none]) W (some (T.length + 1))) [] (inT_nil _)
    have l2 := setO_len (runN a (setO (T ++ [none]) W (some (T.length + 1))) []).2 (runN a (setO (T ++ [none]) W (some (T.length + 1))) []).1 (some (T.length + 1))
    have i := runN_in r (setO (runN a (setO (T ++ [none]) W (some (T.length + 1))) []).1 (runN a (setO (T ++ [none]) W (some (T.length + 1))) []).2 (some (T.length + 1))) [T.length + 1] (inT_one (by omega))
    simp only [runN, wt]
    exact ⟨by omega, i.2⟩
theorem runN_sm : ∀ (b : Blk) (T : Tb) (W : List Nat), (runN b T W).2.length ≤ wt b + W.length
  | .nil, T, W => by simp only [runN, wt]; omega
  | .simp _ _ r, T, W => by have := runN_sm r (setO (T ++ [none]) W (some (T.length + 1))) [T.length + 1]; simp only [runN, wt]; simp only [List.length_cons, List.length_nil] at this; omega
  | .inner r, T, W => by have := runN_sm r (setO (T ++ [none]) W (some (T.length + 1))) [T.length + 1]; simp only [runN, wt]; simp only [List.length_cons, List.length_nil] at this; omega
  | .ife _ a b r, T, W => by
    have ia := runN_sm a (setO (T ++ [none]) W (some (T.length + 1))) []
    have ib := runN_sm b (runN a (setO (T ++ [none]) W (some (T.length + 1))) []).1 []
    have i := runN_sm r (runN b (runN a (setO (T ++ [none]) W (some (T.length + 1))) []).1 []).1 ([T.length + 1] ++ (runN a (setO (T ++ [none]) W (some (T.length + 1))) []).2 ++ (runN b (runN a (setO (T ++ [none]) W (some (T.length + 1))) []).1 []).2)
    simp only [runN, wt]
    simp only [List.length_append, List.length_cons, List.length_nil] at ia ib i ⊢
    omega
  | .whl _ a r, T, W => by
    have i := runN_sm r (setO (runN a (setO (T ++ [none]) W (some (T.length + 1))) []).1 (runN a (setO (T ++ [none]) W (some (T.length + 1))) []).2 (some (T.length + 1))) [T.length + 1]
    simp only [runN, wt]
    simp only [List.length_cons, List.length_nil] at i
    omega
theorem runN_small (b : Blk) (T : Tb) : (runN b T []).2.length ≤ wt b := runN_sm b T []
/-- what the table is -/
def nxt : Blk → Nat → Option Nat → Option Nat
  | .nil, _, L => L
  | _, n, _ => some (n + 1)
def tab : Blk → Nat → Option Nat → Tb
  | .nil, _, _ => []
  | .simp _ _ r, n, L => nxt r (n + 1) L :: tab r (n + 1) L
  | .inner r, n, L => nxt r (n + 1) L :: tab r (n + 1) L
  | .ife _ a b r, n, L =>
    nxt r (n + 1 + wt a + wt b) L :: (tab a (n + 1) (nxt r (n + 1 + wt a + wt b) L) ++ tab b (n + 1 + wt a) (nxt r (n + 1 + wt a + wt b) L) ++ tab r (n + 1 + wt a + wt b) L)
  | .whl _ a r, n, L => nxt r (n + 1 + wt a) L :: (tab a (n + 1) (some (n + 1)) ++ tab r (n + 1 + wt a) L)
theorem nx0 (n : Nat) (L : Option Nat) : nxt .nil n L = L := rfl
theorem nx1 (h : Str) (xs : List PD) (r : Blk) (n : Nat) (L : Option Nat) : nxt (.simp h xs r) n L = some (n + 1) := rfl
theorem nx2 (r : Blk) (n : Nat) (L : Option Nat) : nxt (.inner r) n L = some (n + 1) := rfl
theorem nx3 (t : PD) (a b r : Blk) (n : Nat) (L : Option Nat) : nxt (.ife t a b r) n L = some (n + 1) := rfl
theorem nx4 (t : PD) (a r : Blk) (n : Nat) (L : Option Nat) : nxt (.whl t a r) n L = some (n + 1) := rfl
theorem setO_nil (T : Tb) (v : Option Nat) : setO T [] v = T := by cases v <;> rfl
theorem runN_tab : ∀ (b : Blk) (T : Tb) (W : List Nat) (L : Option Nat), InT T W → setO (runN b T W).1 (runN b T W).2 L = setO T W (nxt b T.length L) ++ tab b T.length L
  | .nil, T, W, L, h => by simp only [runN, nx0, tab, List.append_nil]
  | .simp _ _ r, T, W, L, h => by
    have e := setO_app W T [none] (some (T.length + 1)) h
    have l : (setO (T ++ [none]) W (some (T.length + 1))).length = T.length + 1 := by rw [setO_len]; simp
    have lt := setO_len W T (some (T.length + 1))
    have one : ∀ v, setO (setO T W (some (T.length + 1)) ++ [none]) [T.length + 1] v = setO T W (some (T.length + 1)) ++ [v] := fun v => by have z := setO_one (setO T W (some (T.length + 1))) v; rwa [lt] at z
    have i := runN_tab r (setO (T ++ [none]) W (some (T.length + 1))) [T.length + 1] L (inT_one (by omega))
    rw [l, e, one] at i
    simp only [runN, nx0, nx1, nx2, nx3, nx4, tab]
    rw [e, i, List.append_assoc]; rfl
  | .inner r, T, W, L, h => by
    have e := setO_app W T [none] (some (T.length + 1)) h
    have l : (setO (T ++ [none]) W (some (T.length + 1))).length = T.length + 1 := by rw [setO_len]; simp
    have lt := setO_len W T (some (T.length + 1))
    have one : ∀ v, setO (setO T W (some (T.length + 1)) ++ [none]) [T.length + 1] v = setO T W (some (T.length + 1)) ++ [v] := fun v => by have z := setO_one (setO T W (some (T.length + 1))) v; rwa [lt] at z
    have i := runN_tab r (setO (T ++ [none]) W (some (T.length + 1))) [T.length + 1] L (inT_one (by omega))
    rw [l, e, one] at i
    simp only [runN, nx0, nx1, nx2, nx3, nx4, tab]
    rw [e, i, List.append_assoc]; rfl
  | .ife _ a b r, T, W, L, h => by
    have e := setO_app W T [none] (some (T.length + 1)) h
    have l : (setO (T ++ [none]) W (some (T.length + 1))).length = T.length + 1 := by rw [setO_len]; simp
    have lt := setO_len W T (some (T.length + 1))
    have one : ∀ v, setO (setO T W (some (T.length + 1)) ++ [none]) [T.length + 1] v = setO T W (some (T.length + 1)) ++ [v] := fun v => by have z := setO_one (setO T W (some (T.length + 1))) v; rwa [lt] at z
    simp only [runN, nx0, nx1, nx2, nx3, nx4, tab]
    generalize hT1 : setO (T ++ [none]) W (some (T.length + 1)) = T1 at *
    have ia := runN_in a T1 [] (inT_nil _)
    generalize hp : runN a T1 [] = p at *
    have ib := runN_in b p.1 [] (inT_nil _)
    generalize hq : runN b p.1 [] = q at *
    have lq : q.1.length = T.length + 1 + wt a + wt b := by omega
    have i := runN_tab r q.1 ([T.length + 1] ++ p.2 ++ q.2) L (inT_app (inT_app (inT_one (by omega)) (inT_up ia.2 (by omega))) ib.2)
    rw [i, lq]
    generalize nxt r (T.length + 1 + wt a + wt b) L = N
    have ta := runN_tab a T1 [] N (inT_nil _)
    rw [hp, setO_nil, l] at ta
    have tb := runN_tab b p.1 [] N (inT_nil _)
    rw [hq, setO_nil, ia.1, l] at tb
    rw [setO_cat, setO_swap, tb, setO_app _ p.1 _ _ (inT_app (inT_one (by omega)) ia.2), setO_cat, setO_swap, ta, setO_app _ T1 _ _ (inT_one (by omega)), e, one]
    simp only [List.append_assoc, List.cons_append, List.nil_append]
  | .whl _ a r, T, W, L, h => by
    have e := setO_app W T [none] (some (T.length + 1)) h
    have l : (setO (T ++ [none]) W (some (T.length + 1))).length = T.length + 1 := by rw [setO_len]; simp
    have lt := setO_len W T (some (T.length + 1))
    have one : ∀ v, setO (setO T W (some (T.length + 1)) ++ [none]) [T.length + 1] v = setO T W (some (T.length + 1)) ++ [v] := fun v => by have z := setO_one (setO T W (some (T.length + 1))) v; rwa [lt] at z
    simp only [runN, nx0, nx1, nx2, nx3, nx4, tab]
    generalize hT1 : setO (T ++ [none]) W (some (T.length + 1)) = T1 at *
    have ia := runN_in a T1 [] (inT_nil _)
    generalize hp : runN a T1 [] = p at *
    have lq := setO_len p.2 p.1 (some (T.length + 1))
    have i := runN_tab r (setO p.1 p.2 (some (T.length + 1))) [T.length + 1] L (inT_one (by omega))
    rw [i, lq, ia.1, l]
    generalize nxt r (T.length + 1 + wt a) L = N
    have ta := runN_tab a T1 [] (some (T.length + 1)) (inT_nil _)
    rw [hp, setO_nil, l] at ta
    rw [ta, setO_app _ T1 _ _ (inT_one (by omega)), e, one]
    simp only [List.append_assoc, List.cons_append, List.nil_append]
theorem runN_top (b : Blk) : (runN b [] []).1 = tab b 0 none := by
  have h := runN_tab b [] [] none (inT_nil _)
  rw [setO_nil] at h
  exact h
theorem tab_len : ∀ (b : Blk) (n : Nat) (L : Option Nat), (tab b n L).length = wt b
  | .nil, _, _ => rfl
  | .simp _ _ r, n, L => by simp only [tab, wt, List.length_cons, tab_len r]; omega
  | .inner r, n, L => by simp only [tab, wt, List.length_cons, tab_len r]; omega
  | .ife _ a b r, n, L => by simp only [tab, wt, List.length_cons, List.length_append, tab_len a, tab_len b, tab_len r]; omega
  | .whl _ a r, n, L => by simp only [tab, wt, List.length_cons, List.length_append, tab_len a, tab_len r]; omega
theorem tab_app : ∀ (a b : Blk) (n : Nat) (L : Option Nat), tab (app a b) n L = tab a n (nxt b (n + wt a) L) ++ tab b (n + wt a) L ∧ nxt (app a b) n L = nxt a n (nxt b (n + wt a) L)
  | .nil, b, n, L => ⟨by simp only [app, tab, wt, List.nil_append, Nat.add_zero], by simp only [app, nx0, wt, Nat.add_zero]⟩
  | .simp _ _ r, b, n, L => by
    have i := tab_app r b (n + 1) L
    refine ⟨?_, rfl⟩
    simp only [app, tab, wt, List.cons_append]
    rw [show n + (1 + wt r) = n + 1 + wt r by omega, i.1, i.2]
  | .inner r, b, n, L => by
    have i := tab_app r b (n + 1) L
    refine ⟨?_, rfl⟩
    simp only [app, tab, wt, List.cons_append]
    rw [show n + (1 + wt r) = n + 1 + wt r by omega, i.1, i.2]
  | .ife _ a c r, b, n, L => by
    have i := tab_app r b (n + 1 + wt a + wt c) L
    refine ⟨?_, rfl⟩
    simp only [app, tab, wt, List.cons_append]
    rw [show n + (1 + wt a + wt c + wt r) = n + 1 + wt a + wt c + wt r by omega, i.1, i.2]
    simp only [List.append_assoc]
  | .whl _ a r, b, n, L => by
    have i := tab_app r b (n + 1 + wt a) L
    refine ⟨?_, rfl⟩
    simp only [app, tab, wt, List.cons_append]
    rw [show n + (1 + wt a + wt r) = n + 1 + wt a + wt r by omega, i.1, i.2]
    simp only [List.append_assoc]
def shO (m : Nat) (last : Option Nat) : Option Nat → Option Nat
  | none => last
  | some x => some (x + m)
theorem shs (m : Nat) (last : Option Nat) (x : Nat) : shO m last (some x) = some (x + m) := rfl
theorem nxt_sh (m : Nat) (last : Option Nat) : ∀ (r : Blk) (n : Nat) (L : Option Nat), shO m last (nxt r n L) = nxt r (n + m) (shO m last L)
  | .nil, _, _ => rfl
  | .simp _ _ _, n, _ => by simp only [nx1, shO, Option.some.injEq]; omega
  | .inner _, n, _ => by simp only [nx2, shO, Option.some.injEq]; omega
  | .ife _ _ _ _, n, _ => by simp only [nx3, shO, Option.some.injEq]; omega
  | .whl _ _ _, n, _ => by simp only [nx4, shO, Option.some.injEq]; omega
theorem tab_sh (m : Nat) (last : Option Nat) : ∀ (b : Blk) (n : Nat) (L : Option Nat), (tab b n L).map (shO m last) = tab b (n + m) (shO m last L)
  | .nil, _, _ => rfl
  | .simp _ _ r, n, L => by
    simp only [tab, List.map_cons, nxt_sh, tab_sh m last r, show n + 1 + m = n + m + 1 by omega]
  | .inner r, n, L => by
    simp only [tab, List.map_cons, nxt_sh, tab_sh m last r, show n + 1 + m = n + m + 1 by omega]
  | .ife _ a b r, n, L => by
    simp only [tab, List.map_cons, List.map_append, nxt_sh, tab_sh m last r, tab_sh m last a, tab_sh m last b]
    rw [show n + 1 + wt a + wt b + m = n + m + 1 + wt a + wt b by omega, show n + 1 + m = n + m + 1 by omega, show n + 1 + wt a + m = n + m + 1 + wt a by omega]
  | .whl _ a r, n, L => by
    simp only [tab, List.map_cons, List.map_append, nxt_sh, tab_sh m last r, tab_sh m last a, shs]
    rw [show n + 1 + wt a + m = n + m + 1 + wt a by omega, show n + 1 + m = n + m + 1 by omega]
/-! the defs -/
theorem nxt_bd : ∀ (r : Blk) (n : Nat) (L : Option Nat) (B : Nat), (∀ x, L = some x → x ≤ B) → (1 ≤ wt r → n + 1 ≤ B) → ∀ x, nxt r n L = some x → x ≤ B
  | .nil, _, _, _, h, _, x, e => h x e
  | .simp _ _ _, n, _, B, _, h, x, e => by cases e; exact h (by simp only [wt]; omega)
  | .inner _, n, _, B, _, h, x, e => by cases e; exact h (by simp only [wt]; omega)
  | .ife _ _ _ _, n, _, B, _, h, x, e => by cases e; exact h (by simp only [wt]; omega)
  | .whl _ _ _, n, _, B, _, h, x, e => by cases e; exact h (by simp only [wt]; omega)
theorem tab_bd : ∀ (b : Blk) (n : Nat) (L : Option Nat) (B : Nat), n + wt b ≤ B → (∀ x, L = some x → x ≤ B) → ∀ o ∈ tab b n L, ∀ x, o = some x → x ≤ B
  | .nil, _, _, _, _, _, o, h, _, _ => by cases h
  | .simp _ _ r, n, L, B, hn, hL, o, h, x, e => by
    simp only [wt] at hn
    rcases List.mem_cons.mp h with rfl | h
    · exact nxt_bd r (n + 1) L B hL (fun _ => by omega) x e
    · exact tab_bd r (n + 1) L B (by omega) hL o h x e
  | .inner r, n, L, B, hn, hL, o, h, x, e => by
    simp only [wt] at hn
    rcases List.mem_cons.mp h with rfl | h
    · exact nxt_bd r (n + 1) L B hL (fun _ => by omega) x e
    · exact tab_bd r (n + 1) L B (by omega) hL o h x e
  | .ife _ a b r, n, L, B, hn, hL, o, h, x, e => by
    simp only [wt] at hn
    have hN := nxt_bd r (n + 1 + wt a + wt b) L B hL (fun _ => by omega)
    rcases List.mem_cons.mp h with rfl | h
    · exact hN x e
    · rcases List.mem_append.mp h with h | h
      · rcases List.mem_append.mp h with h | h
        · exact tab_bd a _ _ B (by omega) hN o h x e
        · exact tab_bd b _ _ B (by omega) hN o h x e
      · exact tab_bd r _ L B (by omega) hL o h x e
  | .whl _ a r, n, L, B, hn, hL, o, h, x, e => by
    simp only [wt] at hn
    have hN := nxt_bd r (n + 1 + wt a) L B hL (fun _ => by omega)
    rcases List.mem_cons.mp h with rfl | h
    · exact hN x e
    · rcases List.mem_append.mp h with h | h
      · exact tab_bd a _ _ B (by omega) (fun y z => by cases z; omega) o h x e
      · exact tab_bd r _ L B (by omega) hL o h x e
theorem ixw {n w : Nat} (h : 1 ≤ w ∧ w ≤ n) : ixN n ((w : Int) - 1) = some (w - 1) := by
  unfold ixN
  rw [if_pos (by omega), if_pos (by omega)]
  congr 1
  omega
theorem sti_loop (C : Cfg) : ∀ (W : List Nat) (T : Tb) (p : Option Nat) (z w st e pt ins : Slo) (n : Nat), InT T W → ∃ e', lpS C (.var 5) (.cons (.sti 1 (.bin .sub (.var 5) (.int 1)) (.var 4)) .nil) (W.map iN) [z, .own p (T.map oN), w, st, .val (.int n), e, pt, ins] = some (.nx [z, .own p ((setO T W (some n)).map oN), w, st, .val (.int n), e', pt, ins])
  | [], T, p, z, w, st, e, pt, ins, n, _ => ⟨e, rfl⟩
  | u :: W, T, p, z, w, st, e, pt, ins, n, h => by
    have hu := h u (List.mem_cons_self ..)
    obtain ⟨e', i⟩ := sti_loop C W (T.set (u - 1) (some n)) p z w st (.val (.int u)) pt ins n fun x hx => by rw [List.length_set]; exact h x (List.mem_cons_of_mem _ hx)
    refine ⟨e', ?_⟩
    have q : List.set (List.map oN T) (u - 1) (.int n) = List.map oN (T.set (u - 1) (some n)) := by rw [List.map_set]; rfl
    simp only [List.map_cons, iN, runF, tagA, outsA, oXt_non, oXf_non, oXt_bl, oXf_bl, oXt_int, oXf_int, oXt_str, oXf_str, oXt_glb, oXf_glb, oXt_bin, oXf_bin, oXt_neg, oXf_neg, oXt_not, oXf_not, oXt_cmp, oXf_cmp, oXt_chain, oXf_chain, oXt_and, oXf_and, oXt_or, oXf_or, oXt_ife, oXf_ife, oXt_sub, oXf_sub, oXt_slc, oXf_slc, oXt_rev, oXf_rev, oXt_tup, oXf_tup, oXt_lst, oXf_lst, oXt_call, oXf_call, oXt_prim, oXf_prim, oXt_isi, oXf_isi, oXt_comp, oXf_comp, oXt_app, oXf_app, oXt_ext, oXf_ext, oXt_pop, oXf_pop, oXf_var, oXt_var, oX_lend, eX_var, eX_non, eX_bl, eX_int, eX_str, eX_glb, eX_bin, eX_neg, eX_not, eX_cmp, eX_chain, eX_and, eX_or, eX_ife, eX_sub, eX_slc, eX_rev, eX_tup, eX_lst, eX_call, eX_prim, eX_isi, eX_comp, eX_app, eX_ext, eX_pop, eP_nil, eP_cons, eL_nil, eL_cons, eI_rng1, eI_rng2, eI_cons, eS_nil, eS_cons, eS_set, eS_unp, eS_sti, eS_ex, eS_ifs, eS_whl, eS_fors, eS_brk, eS_cnt, eS_pas, eS_retv, eS_ret_non, eS_ret_bl, eS_ret_int, eS_ret_str, eS_ret_glb, eS_ret_bin, eS_ret_neg, eS_ret_not, eS_ret_cmp, eS_ret_chain, eS_ret_and, eS_ret_or, eS_ret_ife, eS_ret_sub, eS_ret_slc, eS_ret_rev, eS_ret_tup, eS_ret_lst, eS_ret_call, eS_ret_prim, eS_ret_isi, eS_ret_comp, eS_ret_app, eS_ret_ext, eS_ret_pop, lpS_nil, lpS_cons, cmS_nil, cmS_cons, rdO, rdS, rdAll, frz, valsOf, argsOf, slotsOf, putBack, subD, slD, prD, seqD, asg, asgs, bopD, copD, eqD, truS, List.mapIdx_cons, List.mapIdx_nil, List.getElem?_cons_zero, List.getElem?_cons_succ, List.set_cons_zero, List.set_cons_succ, List.length_cons, List.length_nil, List.cons_append, List.nil_append, List.replicate_zero, List.replicate_succ, List.append_nil, List.nodup_nil, List.nodup_cons, List.not_mem_nil, Nat.sub_self, Nat.add_one_sub_one, Nat.zero_lt_succ, if_true, if_false, eq_self_iff_true, reduceIte, reduceCtorEq, Nat.zero_le, slv, not_false_eq_true, and_self, and_true, true_and, List.singleton_append, Bool.not_true, Bool.not_false, List.foldl_nil, ite_true, ite_false, beq_self_eq_true, Nat.reduceAdd, Nat.reduceLT, Nat.reduceLeDiff, Nat.reduceSub, Nat.reduceEqDiff, Nat.reduceMul, Int.reduceAdd, Int.reduceLT, Int.reduceLE, Int.reduceNeg, Int.reduceEq, Int.reduceSub, decide_true, decide_false, decide_eq_true_eq, cond_true, cond_false, List.length_map, ixw hu, q, setO, setW]
    exact i
theorem addn_ok : ∀ (k : Nat) (b : Blk) (T : Tb), okB b = true → dep b ≤ k → T.length + wt b ≤ 100000 → fnK rs gl0 (k + 1) 8 [.val (.tuple (enc b)), .own none (T.map oN)] = some (.val (.list ((runN b T []).2.map iN)), [.un, .own none ((runN b T []).1.map oN)])
  | 0, b, _, _, h, _ => absurd (dep_pos b) (by omega)
  | k + 1, b, T, ok, hk, hw => by
    have L : ∀ b z s3 s4 s5 s6 s7 T W, okB b = true → dep b ≤ k + 1 → T.length + wt b ≤ 100000 → InT T W → ∃ t3 t4 t5 t6 t7, lpS ⟨fnK rs gl0 (k + 1), gl0⟩ (.var 3) (.cons (.ex (.app 1 (.non))) (.cons (.set 4 false (.prim .len (.cons (.var 1) .nil))) (.cons (.fors (.var 5) (.cons (.var 2) .nil) (.cons (.sti 1 (.bin .sub (.var 5) (.int 1)) (.var 4)) .nil)) (.cons (.set 2 false (.lst (.cons (.var 4) .nil))) (.cons (.fors (.var 6) (.cons (.call 0 (.cons (.var 3) .nil)) .nil) (.cons (.set 7 false (.call 8 (.cons (.var 6) (.cons (.lend 1) .nil)))) (.cons (.ifs (.cmp .eq (.sub (.var 3) (.int 0)) (.str "while")) (.cons (.fors (.var 5) (.cons (.var 7) .nil) (.cons (.sti 1 (.bin .sub (.var 5) (.int 1)) (.var 4)) .nil)) .nil) (.cons (.set 2 false (.bin .add (.var 2) (.var 7))) .nil)) .nil))) .nil))))) (enc b) [z, .own (some 1) (T.map oN), .val (.list (W.map iN)), s3, s4, s5, s6, s7] = some (.nx [z, .own (some 1) ((runN b T W).1.map oN), .val (.list ((runN b T W).2.map iN)), t3, t4, t5, t6, t7]) := by
      intro b
      induction b with
      | nil => intro z s3 s4 s5 s6 s7 T W _ _ _ _; exact ⟨s3, s4, s5, s6, s7, rfl⟩
      | simp h xs r ih =>
        intro z s3 s4 s5 s6 s7 T W ok hk hw hi
        simp only [okB, Bool.and_eq_true] at ok
        simp only [wt] at hw
        have l : (setO (T ++ [none]) W (some (T.length + 1))).length = T.length + 1 := by rw [setO_len]; simp
        obtain ⟨e', i⟩ := sti_loop ⟨fnK rs gl0 (k + 1), gl0⟩ W (T ++ [none]) (some 1) z (.val (.list (W.map iN))) (.val (.tuple (.str h :: xs))) s5 s6 s7 (T.length + 1) (inT_up hi (by simp))
        obtain ⟨t3, t4, t5, t6, t7, e⟩ := ih z (.val (.tuple (.str h :: xs))) (.val (.int ((T.length + 1 : Nat) : Int))) e' s6 s7 (setO (T ++ [none]) W (some (T.length + 1))) [T.length + 1] ok.2 hk (by omega) (inT_one (by omega))
        have q : List.map oN T ++ [PyData.none] = List.map oN (T ++ [none]) := by rw [List.map_append]; rfl
        have l' : T.length < 16777216 := by omega
        have ll : (T ++ [none]).length = T.length + 1 := by simp
        simp only [iN, List.map_cons, List.map_nil] at e
        refine ⟨t3, t4, t5, t6, t7, ?_⟩
        simp only [enc, runN, runF, tagA, outsA, oXt_non, oXf_non, oXt_bl, oXf_bl, oXt_int, oXf_int, oXt_str, oXf_str, oXt_glb, oXf_glb, oXt_bin, oXf_bin, oXt_neg, oXf_neg, oXt_not, oXf_not, oXt_cmp, oXf_cmp, oXt_chain, oXf_chain, oXt_and, oXf_and, oXt_or, oXf_or, oXt_ife, oXf_ife, oXt_sub, oXf_sub, oXt_slc, oXf_slc, oXt_rev, oXf_rev, oXt_tup, oXf_tup, oXt_lst, oXf_lst, oXt_call, oXf_call, oXt_prim, oXf_prim, oXt_isi, oXf_isi, oXt_comp, oXf_comp, oXt_app, oXf_app, oXt_ext, oXf_ext, oXt_pop, oXf_pop, oXf_var, oXt_var, oX_lend, eX_var, eX_non, eX_bl, eX_int, eX_str, eX_glb, eX_bin, eX_neg, eX_not, eX_cmp, eX_chain, eX_and, eX_or, eX_ife, eX_sub, eX_slc, eX_rev, eX_tup, eX_lst, eX_call, eX_prim, eX_isi, eX_comp, eX_app, eX_ext, eX_pop, eP_nil, eP_cons, eL_nil, eL_cons, eI_rng1, eI_rng2, eI_cons, eS_nil, eS_cons, eS_set, eS_unp, eS_sti, eS_ex, eS_ifs, eS_whl, eS_fors, eS_brk, eS_cnt, eS_pas, eS_retv, eS_ret_non, eS_ret_bl, eS_ret_int, eS_ret_str, eS_ret_glb, eS_ret_bin, eS_ret_neg, eS_ret_not, eS_ret_cmp, eS_ret_chain, eS_ret_and, eS_ret_or, eS_ret_ife, eS_ret_sub, eS_ret_slc, eS_ret_rev, eS_ret_tup, eS_ret_lst, eS_ret_call, eS_ret_prim, eS_ret_isi, eS_ret_comp, eS_ret_app, eS_ret_ext, eS_ret_pop, lpS_nil, lpS_cons, cmS_nil, cmS_cons, rdO, rdS, rdAll, frz, valsOf, argsOf, slotsOf, putBack, subD, slD, prD, seqD, asg, asgs, bopD, copD, eqD, truS, List.mapIdx_cons, List.mapIdx_nil, List.getElem?_cons_zero, List.getElem?_cons_succ, List.set_cons_zero, List.set_cons_succ, List.length_cons, List.length_nil, List.cons_append, List.nil_append, List.replicate_zero, List.replicate_succ, List.append_nil, List.nodup_nil, List.nodup_cons, List.not_mem_nil, Nat.sub_self, Nat.add_one_sub_one, Nat.zero_lt_succ, if_true, if_false, eq_self_iff_true, reduceIte, reduceCtorEq, Nat.zero_le, slv, not_false_eq_true, and_self, and_true, true_and, List.singleton_append, Bool.not_true, Bool.not_false, List.foldl_nil, ite_true, ite_false, beq_self_eq_true, Nat.reduceAdd, Nat.reduceLT, Nat.reduceLeDiff, Nat.reduceSub, Nat.reduceEqDiff, Nat.reduceMul, Int.reduceAdd, Int.reduceLT, Int.reduceLE, Int.reduceNeg, Int.reduceEq, Int.reduceSub, decide_true, decide_false, decide_eq_true_eq, cond_true, cond_false, List.length_map, l', q, ll, i, parts_simp k (okS_hd ok.1), e]
      | inner r ih =>
        intro z s3 s4 s5 s6 s7 T W ok hk hw hi
        simp only [wt] at hw
        have l : (setO (T ++ [none]) W (some (T.length + 1))).length = T.length + 1 := by rw [setO_len]; simp
        obtain ⟨e', i⟩ := sti_loop ⟨fnK rs gl0 (k + 1), gl0⟩ W (T ++ [none]) (some 1) z (.val (.list (W.map iN))) (.val inn) s5 s6 s7 (T.length + 1) (inT_up hi (by simp))
        obtain ⟨t3, t4, t5, t6, t7, e⟩ := ih z (.val inn) (.val (.int ((T.length + 1 : Nat) : Int))) e' s6 s7 (setO (T ++ [none]) W (some (T.length + 1))) [T.length + 1] ok hk (by omega) (inT_one (by omega))
        have q : List.map oN T ++ [PyData.none] = List.map oN (T ++ [none]) := by rw [List.map_append]; rfl
        have l' : T.length < 16777216 := by omega
        have ll : (T ++ [none]).length = T.length + 1 := by simp
        simp only [iN, List.map_cons, List.map_nil] at e
        refine ⟨t3, t4, t5, t6, t7, ?_⟩
        simp only [enc, runN, runF, tagA, outsA, oXt_non, oXf_non, oXt_bl, oXf_bl, oXt_int, oXf_int, oXt_str, oXf_str, oXt_glb, oXf_glb, oXt_bin, oXf_bin, oXt_neg, oXf_neg, oXt_not, oXf_not, oXt_cmp, oXf_cmp, oXt_chain, oXf_chain, oXt_and, oXf_and, oXt_or, oXf_or, oXt_ife, oXf_ife, oXt_sub, oXf_sub, oXt_slc, oXf_slc, oXt_rev, oXf_rev, oXt_tup, oXf_tup, oXt_lst, oXf_lst, oXt_call, oXf_call, oXt_prim, oXf_prim, oXt_isi, oXf_isi, oXt_comp, oXf_comp, oXt_app, oXf_app, oXt_ext, oXf_ext, oXt_pop, oXf_pop, oXf_var, oXt_var, oX_lend, eX_var, eX_non, eX_bl, eX_int, eX_str, eX_glb, eX_bin, eX_neg, eX_not, eX_cmp, eX_chain, eX_and, eX_or, eX_ife, eX_sub, eX_slc, eX_rev, eX_tup, eX_lst, eX_call, eX_prim, eX_isi, eX_comp, eX_app, eX_ext, eX_pop, eP_nil, eP_cons, eL_nil, eL_cons, eI_rng1, eI_rng2, eI_cons, eS_nil, eS_cons, eS_set, eS_unp, eS_sti, eS_ex, eS_ifs, eS_whl, eS_fors, eS_brk, eS_cnt, eS_pas, eS_retv, eS_ret_non, eS_ret_bl, eS_ret_int, eS_ret_str, eS_ret_glb, eS_ret_bin, eS_ret_neg, eS_ret_not, eS_ret_cmp, eS_ret_chain, eS_ret_and, eS_ret_or, eS_ret_ife, eS_ret_sub, eS_ret_slc, eS_ret_rev, eS_ret_tup, eS_ret_lst, eS_ret_call, eS_ret_prim, eS_ret_isi, eS_ret_comp, eS_ret_app, eS_ret_ext, eS_ret_pop, lpS_nil, lpS_cons, cmS_nil, cmS_cons, rdO, rdS, rdAll, frz, valsOf, argsOf, slotsOf, putBack, subD, slD, prD, seqD, asg, asgs, bopD, copD, eqD, truS, List.mapIdx_cons, List.mapIdx_nil, List.getElem?_cons_zero, List.getElem?_cons_succ, List.set_cons_zero, List.set_cons_succ, List.length_cons, List.length_nil, List.cons_append, List.nil_append, List.replicate_zero, List.replicate_succ, List.append_nil, List.nodup_nil, List.nodup_cons, List.not_mem_nil, Nat.sub_self, Nat.add_one_sub_one, Nat.zero_lt_succ, if_true, if_false, eq_self_iff_true, reduceIte, reduceCtorEq, Nat.zero_le, slv, not_false_eq_true, and_self, and_true, true_and, List.singleton_append, Bool.not_true, Bool.not_false, List.foldl_nil, ite_true, ite_false, beq_self_eq_true, Nat.reduceAdd, Nat.reduceLT, Nat.reduceLeDiff, Nat.reduceSub, Nat.reduceEqDiff, Nat.reduceMul, Int.reduceAdd, Int.reduceLT, Int.reduceLE, Int.reduceNeg, Int.reduceEq, Int.reduceSub, decide_true, decide_false, decide_eq_true_eq, cond_true, cond_false, List.length_map, l', q, ll, i, parts_inn k, e]
      | ife t a b r iha ihb ih =>
        intro z s3 s4 s5 s6 s7 T W ok hk hw hi
        simp only [okB, Bool.and_eq_true] at ok
        simp only [wt] at hw
        simp only [dep] at hk
        have l : (setO (T ++ [none]) W (some (T.length + 1))).length = T.length + 1 := by rw [setO_len]; simp
        obtain ⟨e', i⟩ := sti_loop ⟨fnK rs gl0 (k + 1), gl0⟩ W (T ++ [none]) (some 1) z (.val (.list (W.map iN))) (.val (.tuple [.str "if", t, .tuple (enc a), .tuple (enc b)])) s5 s6 s7 (T.length + 1) (inT_up hi (by simp))
        have ea := addn_ok k a (setO (T ++ [none]) W (some (T.length + 1))) ok.1.1.2 (by omega) (by omega)
        have ia := runN_in a (setO (T ++ [none]) W (some (T.length + 1))) [] (inT_nil _)
        have eb := addn_ok k b (runN a (setO (T ++ [none]) W (some (T.length + 1))) []).1 ok.1.2 (by omega) (by omega)
        have ib := runN_in b (runN a (setO (T ++ [none]) W (some (T.length + 1))) []).1 [] (inT_nil _)
        obtain ⟨t3, t4, t5, t6, t7, e⟩ := ih z (.val (.tuple [.str "if", t, .tuple (enc a), .tuple (enc b)])) (.val (.int ((T.length + 1 : Nat) : Int))) e' (.val (.tuple (enc b))) (.val (.list ((runN b (runN a (setO (T ++ [none]) W (some (T.length + 1))) []).1 []).2.map iN)))
          (runN b (runN a (setO (T ++ [none]) W (some (T.length + 1))) []).1 []).1 ([T.length + 1] ++ (runN a (setO (T ++ [none]) W (some (T.length + 1))) []).2 ++ (runN b (runN a (setO (T ++ [none]) W (some (T.length + 1))) []).1 []).2) ok.2 (by omega) (by omega)
          (inT_app (inT_app (inT_one (by omega)) (inT_up ia.2 (by omega))) ib.2)
        have q : List.map oN T ++ [PyData.none] = List.map oN (T ++ [none]) := by rw [List.map_append]; rfl
        have l' : T.length < 16777216 := by omega
        have ll : (T ++ [none]).length = T.length + 1 := by simp
        have z1 := runN_small a (setO (T ++ [none]) W (some (T.length + 1)))
        have z2 := runN_small b (runN a (setO (T ++ [none]) W (some (T.length + 1))) []).1
        have m1 : 1 + (runN a (setO (T ++ [none]) W (some (T.length + 1))) []).2.length ≤ 16777216 := by omega
        have m2 : (runN a (setO (T ++ [none]) W (some (T.length + 1))) []).2.length + 1 + (runN b (runN a (setO (T ++ [none]) W (some (T.length + 1))) []).1 []).2.length ≤ 16777216 := by omega
        simp only [iN, List.map_append, List.map_cons, List.map_nil, List.cons_append, List.nil_append, List.append_assoc] at e
        refine ⟨t3, t4, t5, t6, t7, ?_⟩
        simp only [enc, runN, runF, tagA, outsA, oXt_non, oXf_non, oXt_bl, oXf_bl, oXt_int, oXf_int, oXt_str, oXf_str, oXt_glb, oXf_glb, oXt_bin, oXf_bin, oXt_neg, oXf_neg, oXt_not, oXf_not, oXt_cmp, oXf_cmp, oXt_chain, oXf_chain, oXt_and, oXf_and, oXt_or, oXf_or, oXt_ife, oXf_ife, oXt_sub, oXf_sub, oXt_slc, oXf_slc, oXt_rev, oXf_rev, oXt_tup, oXf_tup, oXt_lst, oXf_lst, oXt_call, oXf_call, oXt_prim, oXf_prim, oXt_isi, oXf_isi, oXt_comp, oXf_comp, oXt_app, oXf_app, oXt_ext, oXf_ext, oXt_pop, oXf_pop, oXf_var, oXt_var, oX_lend, eX_var, eX_non, eX_bl, eX_int, eX_str, eX_glb, eX_bin, eX_neg, eX_not, eX_cmp, eX_chain, eX_and, eX_or, eX_ife, eX_sub, eX_slc, eX_rev, eX_tup, eX_lst, eX_call, eX_prim, eX_isi, eX_comp, eX_app, eX_ext, eX_pop, eP_nil, eP_cons, eL_nil, eL_cons, eI_rng1, eI_rng2, eI_cons, eS_nil, eS_cons, eS_set, eS_unp, eS_sti, eS_ex, eS_ifs, eS_whl, eS_fors, eS_brk, eS_cnt, eS_pas, eS_retv, eS_ret_non, eS_ret_bl, eS_ret_int, eS_ret_str, eS_ret_glb, eS_ret_bin, eS_ret_neg, eS_ret_not, eS_ret_cmp, eS_ret_chain, eS_ret_and, eS_ret_or, eS_ret_ife, eS_ret_sub, eS_ret_slc, eS_ret_rev, eS_ret_tup, eS_ret_lst, eS_ret_call, eS_ret_prim, eS_ret_isi, eS_ret_comp, eS_ret_app, eS_ret_ext, eS_ret_pop, lpS_nil, lpS_cons, cmS_nil, cmS_cons, rdO, rdS, rdAll, frz, valsOf, argsOf, slotsOf, putBack, subD, slD, prD, seqD, asg, asgs, bopD, copD, eqD, truS, List.mapIdx_cons, List.mapIdx_nil, List.getElem?_cons_zero, List.getElem?_cons_succ, List.set_cons_zero, List.set_cons_succ, List.length_cons, List.length_nil, List.cons_append, List.nil_append, List.replicate_zero, List.replicate_succ, List.append_nil, List.nodup_nil, List.nodup_cons, List.not_mem_nil, Nat.sub_self, Nat.add_one_sub_one, Nat.zero_lt_succ, if_true, if_false, eq_self_iff_true, reduceIte, reduceCtorEq, Nat.zero_le, slv, not_false_eq_true, and_self, and_true, true_and, List.singleton_append, Bool.not_true, Bool.not_false, List.foldl_nil, ite_true, ite_false, beq_self_eq_true, Nat.reduceAdd, Nat.reduceLT, Nat.reduceLeDiff, Nat.reduceSub, Nat.reduceEqDiff, Nat.reduceMul, Int.reduceAdd, Int.reduceLT, Int.reduceLE, Int.reduceNeg, Int.reduceEq, Int.reduceSub, decide_true, decide_false, decide_eq_true_eq, cond_true, cond_false, List.length_map, l', q, ll, i, parts_if, ea, eb, at0, fw, m1, m2, List.append_assoc, e]
      | whl t a r iha ih =>
        intro z s3 s4 s5 s6 s7 T W ok hk hw hi
        simp only [okB, Bool.and_eq_true] at ok
        simp only [wt] at hw
        simp only [dep] at hk
        have l : (setO (T ++ [none]) W (some (T.length + 1))).length = T.length + 1 := by rw [setO_len]; simp
        obtain ⟨e', i⟩ := sti_loop ⟨fnK rs gl0 (k + 1), gl0⟩ W (T ++ [none]) (some 1) z (.val (.list (W.map iN))) (.val (.tuple [.str "while", t, .tuple (enc a)])) s5 s6 s7 (T.length + 1) (inT_up hi (by simp))
        have ea := addn_ok k a (setO (T ++ [none]) W (some (T.length + 1))) ok.1.2 (by omega) (by omega)
        have ia := runN_in a (setO (T ++ [none]) W (some (T.length + 1))) [] (inT_nil _)
        have l2 := setO_len (runN a (setO (T ++ [none]) W (some (T.length + 1))) []).2 (runN a (setO (T ++ [none]) W (some (T.length + 1))) []).1 (some (T.length + 1))
        obtain ⟨e'', i2⟩ := sti_loop ⟨fnK rs gl0 (k + 1), gl0⟩ (runN a (setO (T ++ [none]) W (some (T.length + 1))) []).2 (runN a (setO (T ++ [none]) W (some (T.length + 1))) []).1 (some 1) z (.val (.list [.int ((T.length + 1 : Nat) : Int)])) (.val (.tuple [.str "while", t, .tuple (enc a)])) e' (.val (.tuple (enc a))) (.val (.list ((runN a (setO (T ++ [none]) W (some (T.length + 1))) []).2.map iN))) (T.length + 1) ia.2
        obtain ⟨t3, t4, t5, t6, t7, e⟩ := ih z (.val (.tuple [.str "while", t, .tuple (enc a)])) (.val (.int ((T.length + 1 : Nat) : Int))) e'' (.val (.tuple (enc a))) (.val (.list ((runN a (setO (T ++ [none]) W (some (T.length + 1))) []).2.map iN)))
          (setO (runN a (setO (T ++ [none]) W (some (T.length + 1))) []).1 (runN a (setO (T ++ [none]) W (some (T.length + 1))) []).2 (some (T.length + 1))) [T.length + 1] ok.2 (by omega) (by omega) (inT_one (by omega))
        have q : List.map oN T ++ [PyData.none] = List.map oN (T ++ [none]) := by rw [List.map_append]; rfl
        have l' : T.length < 16777216 := by omega
        have ll : (T ++ [none]).length = T.length + 1 := by simp
        simp only [iN, List.map_cons, List.map_nil] at e
        refine ⟨t3, t4, t5, t6, t7, ?_⟩
        simp only [enc, runN, runF, tagA, outsA, oXt_non, oXf_non, oXt_bl, oXf_bl, oXt_int, oXf_int, oXt_str, oXf_str, oXt_glb, oXf_glb, oXt_bin, oXf_bin, oXt_neg, oXf_neg, oXt_not, oXf_not, oXt_cmp, oXf_cmp, oXt_chain, oXf_chain, oXt_and, oXf_and, oXt_or, oXf_or, oXt_ife, oXf_ife, oXt_sub, oXf_sub, oXt_slc, oXf_slc, oXt_rev, oXf_rev, oXt_tup, oXf_tup, oXt_lst, oXf_lst, oXt_call, oXf_call, oXt_prim, oXf_prim, oXt_isi, oXf_isi, oXt_comp, oXf_comp, oXt_app, oXf_app, oXt_ext, oXf_ext, oXt_pop, oXf_pop, oXf_var, oXt_var, oX_lend, eX_var, eX_non, eX_bl, eX_int, eX_str, eX_glb, eX_bin, eX_neg, eX_not, eX_cmp, eX_chain, eX_and, eX_or, eX_ife, eX_sub, eX_slc, eX_rev, eX_tup, eX_lst, eX_call, eX_prim, eX_isi, eX_comp, eX_app, eX_ext, eX_pop, eP_nil, eP_cons, eL_nil, eL_cons, eI_rng1, eI_rng2, eI_cons, eS_nil, eS_cons, eS_set, eS_unp, eS_sti, eS_ex, eS_ifs, eS_whl, eS_fors, eS_brk, eS_cnt, eS_pas, eS_retv, eS_ret_non, eS_ret_bl, eS_ret_int, eS_ret_str, eS_ret_glb, eS_ret_bin, eS_ret_neg, eS_ret_not, eS_ret_cmp, eS_ret_chain, eS_ret_and, eS_ret_or, eS_ret_ife, eS_ret_sub, eS_ret_slc, eS_ret_rev, eS_ret_tup, eS_ret_lst, eS_ret_call, eS_ret_prim, eS_ret_isi, eS_ret_comp, eS_ret_app, eS_ret_ext, eS_ret_pop, lpS_nil, lpS_cons, cmS_nil, cmS_cons, rdO, rdS, rdAll, frz, valsOf, argsOf, slotsOf, putBack, subD, slD, prD, seqD, asg, asgs, bopD, copD, eqD, truS, List.mapIdx_cons, List.mapIdx_nil, List.getElem?_cons_zero, List.getElem?_cons_succ, List.set_cons_zero, List.set_cons_succ, List.length_cons, List.length_nil, List.cons_append, List.nil_append, List.replicate_zero, List.replicate_succ, List.append_nil, List.nodup_nil, List.nodup_cons, List.not_mem_nil, Nat.sub_self, Nat.add_one_sub_one, Nat.zero_lt_succ, if_true, if_false, eq_self_iff_true, reduceIte, reduceCtorEq, Nat.zero_le, slv, not_false_eq_true, and_self, and_true, true_and, List.singleton_append, Bool.not_true, Bool.not_false, List.foldl_nil, ite_true, ite_false, beq_self_eq_true, Nat.reduceAdd, Nat.reduceLT, Nat.reduceLeDiff, Nat.reduceSub, Nat.reduceEqDiff, Nat.reduceMul, Int.reduceAdd, Int.reduceLT, Int.reduceLE, Int.reduceNeg, Int.reduceEq, Int.reduceSub, decide_true, decide_false, decide_eq_true_eq, cond_true, cond_false, List.length_map, l', q, ll, i, parts_while, ea, at0, i2, e]
    obtain ⟨t3, t4, t5, t6, t7, e⟩ := L b (.val (.tuple (enc b))) .un .un .un .un .un T [] ok hk hw (inT_nil _)
    simp only [List.map_nil] at e
    rw [run8]
    simp only [runF, tagA, outsA, oXt_non, oXf_non, oXt_bl, oXf_bl, oXt_int, oXf_int, oXt_str, oXf_str, oXt_glb, oXf_glb, oXt_bin, oXf_bin, oXt_neg, oXf_neg, oXt_not, oXf_not, oXt_cmp, oXf_cmp, oXt_chain, oXf_chain, oXt_and, oXf_and, oXt_or, oXf_or, oXt_ife, oXf_ife, oXt_sub, oXf_sub, oXt_slc, oXf_slc, oXt_rev, oXf_rev, oXt_tup, oXf_tup, oXt_lst, oXf_lst, oXt_call, oXf_call, oXt_prim, oXf_prim, oXt_isi, oXf_isi, oXt_comp, oXf_comp, oXt_app, oXf_app, oXt_ext, oXf_ext, oXt_pop, oXf_pop, oXf_var, oXt_var, oX_lend, eX_var, eX_non, eX_bl, eX_int, eX_str, eX_glb, eX_bin, eX_neg, eX_not, eX_cmp, eX_chain, eX_and, eX_or, eX_ife, eX_sub, eX_slc, eX_rev, eX_tup, eX_lst, eX_call, eX_prim, eX_isi, eX_comp, eX_app, eX_ext, eX_pop, eP_nil, eP_cons, eL_nil, eL_cons, eI_rng1, eI_rng2, eI_cons, eS_nil, eS_cons, eS_set, eS_unp, eS_sti, eS_ex, eS_ifs, eS_whl, eS_fors, eS_brk, eS_cnt, eS_pas, eS_retv, eS_ret_non, eS_ret_bl, eS_ret_int, eS_ret_str, eS_ret_glb, eS_ret_bin, eS_ret_neg, eS_ret_not, eS_ret_cmp, eS_ret_chain, eS_ret_and, eS_ret_or, eS_ret_ife, eS_ret_sub, eS_ret_slc, eS_ret_rev, eS_ret_tup, eS_ret_lst, eS_ret_call, eS_ret_prim, eS_ret_isi, eS_ret_comp, eS_ret_app, eS_ret_ext, eS_ret_pop, lpS_nil, lpS_cons, cmS_nil, cmS_cons, rdO, rdS, rdAll, frz, valsOf, argsOf, slotsOf, putBack, subD, slD, prD, seqD, asg, asgs, bopD, copD, eqD, truS, List.mapIdx_cons, List.mapIdx_nil, List.getElem?_cons_zero, List.getElem?_cons_succ, List.set_cons_zero, List.set_cons_succ, List.length_cons, List.length_nil, List.cons_append, List.nil_append, List.replicate_zero, List.replicate_succ, List.append_nil, List.nodup_nil, List.nodup_cons, List.not_mem_nil, Nat.sub_self, Nat.add_one_sub_one, Nat.zero_lt_succ, if_true, if_false, eq_self_iff_true, reduceIte, reduceCtorEq, Nat.zero_le, slv, not_false_eq_true, and_self, and_true, true_and, List.singleton_append, Bool.not_true, Bool.not_false, List.foldl_nil, ite_true, ite_false, beq_self_eq_true, Nat.reduceAdd, Nat.reduceLT, Nat.reduceLeDiff, Nat.reduceSub, Nat.reduceEqDiff, Nat.reduceMul, Int.reduceAdd, Int.reduceLT, Int.reduceLE, Int.reduceNeg, Int.reduceEq, Int.reduceSub, decide_true, decide_false, decide_eq_true_eq, cond_true, cond_false, e]
end Lw

set_option Elab.async false
set_option linter.all false
set_option maxRecDepth 100000
set_option maxHeartbeats 2000000
namespace Lw
open PySem PySem.Spec PyProof.Rows L2 Dv
/-! texts' sizes -/
def txA : List PD → Nat
  | [] => 0
  | d :: r => d.shown.length + 2 + txA r
theorem txA_eq : ∀ ds : List PD, ((PyData.shownAll ds).map (·.length)).sum + 2 * (PyData.shownAll ds).length = txA ds
  | [] => rfl
  | d :: r => by
    have i := txA_eq r
    simp only [PyData.shownAll, List.map_cons, List.sum_cons, List.length_cons, txA]
    omega
theorem tx_list (ds : List PD) : (PyData.list ds).shown.length ≤ txA ds + 3 := by
  have h := listText_len_le (PyData.shownAll ds)
  have e := txA_eq ds
  simp only [PyData.shown]
  omega
theorem tx_tuple (ds : List PD) : (PyData.tuple ds).shown.length ≤ txA ds + 3 := by
  have h := tupleText_len_le (PyData.shownAll ds)
  have e := txA_eq ds
  simp only [PyData.shown]
  omega
theorem txA_app : ∀ a b : List PD, txA (a ++ b) = txA a + txA b
  | [], b => by simp only [List.nil_append, txA]; omega
  | x :: a, b => by simp only [List.cons_append, txA, txA_app a b]; omega
theorem sh_app : ∀ a b : List PD, PyData.showableAll (a ++ b) = (PyData.showableAll a && PyData.showableAll b)
  | [], b => by simp only [List.nil_append, PyData.showableAll, Bool.true_and]
  | x :: a, b => by simp only [List.cons_append, PyData.showableAll, sh_app a b, Bool.and_assoc]
theorem tx_if : (PyData.str "if").shown.length = 4 := by decide +kernel
theorem tx_while : (PyData.str "while").shown.length = 7 := by decide +kernel
theorem tx_inn : inn.shown.length = 10 := by decide +kernel
theorem inn_sh : inn.showable = true := by decide +kernel
theorem inn_cl : inn.canLay0 = true := by decide +kernel
theorem inn_dep : inn.depth = 1 := by decide +kernel
theorem str_if : PyData.canLay0 (.str "if") = true := by decide +kernel
theorem str_while : PyData.canLay0 (.str "while") = true := by decide +kernel
theorem enc_tx : ∀ b, okB b = true → txA (enc b) ≤ 200 * wt b
  | .nil, _ => Nat.le_refl 0
  | .simp h xs r, e => by
    simp only [okB, okS, Bool.and_eq_true, decide_eq_true_eq] at e
    have i := enc_tx r e.2
    have z := e.1.2
    simp only [enc, txA, wt]
    omega
  | .inner r, e => by
    simp only [okB] at e
    have i := enc_tx r e
    simp only [enc, txA, wt, tx_inn]
    omega
  | .ife t a b r, e => by
    simp only [okB, okT, Bool.and_eq_true, decide_eq_true_eq] at e
    have i := enc_tx r e.2
    have ia := enc_tx a e.1.1.2
    have ib := enc_tx b e.1.2
    have z := e.1.1.1.2
    have ta := tx_tuple (enc a)
    have tb := tx_tuple (enc b)
    have tt := tx_tuple [.str "if", t, .tuple (enc a), .tuple (enc b)]
    simp only [txA, tx_if] at tt
    simp only [enc, txA, wt]
    omega
  | .whl t a r, e => by
    simp only [okB, okT, Bool.and_eq_true, decide_eq_true_eq] at e
    have i := enc_tx r e.2
    have ia := enc_tx a e.1.2
    have z := e.1.1.2
    have ta := tx_tuple (enc a)
    have tt := tx_tuple [.str "while", t, .tuple (enc a)]
    simp only [txA, tx_while] at tt
    simp only [enc, txA, wt]
    omega
theorem mul_up {d D n : Nat} (h : d ≤ D) : d * n ≤ D * n := Nat.mul_le_mul_right n h
theorem num_tx : ∀ b, okB b = true → txA (num b) ≤ dep b * (200 * wt b)
  | .nil, _ => Nat.zero_le _
  | .simp h xs r, e => by
    simp only [okB, okS, Bool.and_eq_true, decide_eq_true_eq] at e
    have i := num_tx r e.2
    have p := dep_pos r
    have q := mul_up (n := 200) p
    have z := e.1.2
    simp only [num, txA, wt, dep]
    rw [show 200 * (1 + wt r) = 200 + 200 * wt r by omega, Nat.mul_add]
    omega
  | .inner r, e => by
    simp only [okB] at e
    have i := num_tx r e
    have p := dep_pos r
    have q := mul_up (n := 200) p
    simp only [num, txA, wt, dep, tx_inn]
    rw [show 200 * (1 + wt r) = 200 + 200 * wt r by omega, Nat.mul_add]
    omega
  | .ife t a b r, e => by
    have e0 := e
    simp only [okB, okT, Bool.and_eq_true, decide_eq_true_eq] at e
    have i := num_tx r e.2
    have ia := num_tx a e.1.1.2
    have ib := num_tx b e.1.2
    have xa := enc_tx a e.1.1.2
    have xb := enc_tx b e.1.2
    have z := e.1.1.1.2
    have ta := tx_tuple (enc a)
    have tb := tx_tuple (enc b)
    have tt := tx_tuple [.str "if", t, .tuple (enc a), .tuple (enc b)]
    simp only [txA, tx_if] at tt
    simp only [num, txA, wt, dep, txA_app]
    generalize hD : max (dep r) (max (1 + dep a) (1 + dep b)) = D
    have pa := mul_up (n := 200 * wt a) (show 1 + dep a ≤ D by omega)
    have pb := mul_up (n := 200 * wt b) (show 1 + dep b ≤ D by omega)
    have pr := mul_up (n := 200 * wt r) (show dep r ≤ D by omega)
    have p1 := mul_up (n := 200) (show 1 ≤ D by omega)
    rw [show 200 * (1 + wt a + wt b + wt r) = 200 + 200 * wt a + 200 * wt b + 200 * wt r by omega, Nat.mul_add, Nat.mul_add, Nat.mul_add]
    rw [Nat.add_mul] at pa pb
    omega
  | .whl t a r, e => by
    simp only [okB, okT, Bool.and_eq_true, decide_eq_true_eq] at e
    have i := num_tx r e.2
    have ia := num_tx a e.1.2
    have xa := enc_tx a e.1.2
    have z := e.1.1.2
    have ta := tx_tuple (enc a)
    have tt := tx_tuple [.str "while", t, .tuple (enc a)]
    simp only [txA, tx_while] at tt
    simp only [num, txA, wt, dep, txA_app]
    generalize hD : max (dep r) (1 + dep a) = D
    have pa := mul_up (n := 200 * wt a) (show 1 + dep a ≤ D by omega)
    have pr := mul_up (n := 200 * wt r) (show dep r ≤ D by omega)
    have p1 := mul_up (n := 200) (show 1 ≤ D by omega)
    rw [show 200 * (1 + wt a + wt r) = 200 + 200 * wt a + 200 * wt r by omega, Nat.mul_add, Nat.mul_add]
    rw [Nat.add_mul] at pa
    omega
theorem enc_sh : ∀ b, okB b = true → PyData.showableAll (enc b) = true
  | .nil, _ => rfl
  | .simp h xs r, e => by
    simp only [okB, okS, Bool.and_eq_true, decide_eq_true_eq] at e
    simp only [enc, PyData.showableAll, e.1.1.2, enc_sh r e.2, Bool.and_self]
  | .inner r, e => by
    simp only [okB] at e
    simp only [enc, PyData.showableAll, inn_sh, enc_sh r e, Bool.and_self]
  | .ife t a b r, e => by
    simp only [okB, okT, Bool.and_eq_true, decide_eq_true_eq] at e
    simp only [enc, PyData.showableAll, PyData.showable, e.1.1.1.1.2, enc_sh r e.2, enc_sh a e.1.1.2, enc_sh b e.1.2, Bool.and_self]
  | .whl t a r, e => by
    simp only [okB, okT, Bool.and_eq_true, decide_eq_true_eq] at e
    simp only [enc, PyData.showableAll, PyData.showable, e.1.1.1.2, enc_sh r e.2, enc_sh a e.1.2, Bool.and_self]
theorem num_all : ∀ b, okB b = true → PyData.showableAll (num b) = true ∧ PyData.canLayAll0 (num b) = true ∧ PyData.depthAll (num b) ≤ 2 * dep b + 4
  | .nil, _ => ⟨rfl, rfl, by simp only [num, PyData.depthAll]; omega⟩
  | .simp h xs r, e => by
    simp only [okB, okS, Bool.and_eq_true, decide_eq_true_eq] at e
    have i := num_all r e.2
    have p := dep_pos r
    have q := e.1.1.1.2
    refine ⟨by simp only [num, PyData.showableAll, e.1.1.2, i.1, Bool.and_self], by simp only [num, PyData.canLayAll0, e.1.1.1.1.2, i.2.1, Bool.and_self], ?_⟩
    simp only [num, PyData.depthAll, dep]
    omega
  | .inner r, e => by
    simp only [okB] at e
    have i := num_all r e
    have p := dep_pos r
    refine ⟨by simp only [num, PyData.showableAll, inn_sh, i.1, Bool.and_self], by simp only [num, PyData.canLayAll0, inn_cl, i.2.1, Bool.and_self], ?_⟩
    simp only [num, PyData.depthAll, dep, inn_dep]
    omega
  | .ife t a b r, e => by
    have c := enc_cl (.ife t a b .nil) (by simp only [okB, Bool.and_eq_true] at e ⊢; exact ⟨e.1, trivial⟩)
    simp only [okB, okT, Bool.and_eq_true, decide_eq_true_eq] at e
    have i := num_all r e.2
    have ia := num_all a e.1.1.2
    have ib := num_all b e.1.2
    have sa := enc_sh a e.1.1.2
    have sb := enc_sh b e.1.2
    have ca := (enc_cl a e.1.1.2).1
    have cb := (enc_cl b e.1.2).1
    refine ⟨by simp only [num, PyData.showableAll, PyData.showable, sh_app, sa, sb, e.1.1.1.1.2, i.1, ia.1, ib.1, Bool.and_self], by simp only [num, PyData.canLayAll0, PyData.canLay0, cl_app, ca, cb, e.1.1.1.1.1.1, i.2.1, ia.2.1, ib.2.1, Bool.and_self, Bool.and_true, Bool.true_and]; decide +kernel, ?_⟩
    have cc := c.2
    simp only [enc, PyData.depthAll, dep] at cc
    simp only [num, PyData.depthAll, da_app, dep]
    omega
  | .whl t a r, e => by
    have c := enc_cl (.whl t a .nil) (by simp only [okB, Bool.and_eq_true] at e ⊢; exact ⟨e.1, trivial⟩)
    simp only [okB, okT, Bool.and_eq_true, decide_eq_true_eq] at e
    have i := num_all r e.2
    have ia := num_all a e.1.2
    have sa := enc_sh a e.1.2
    have ca := (enc_cl a e.1.2).1
    refine ⟨by simp only [num, PyData.showableAll, PyData.showable, sh_app, sa, e.1.1.1.2, i.1, ia.1, Bool.and_self], by simp only [num, PyData.canLayAll0, PyData.canLay0, cl_app, ca, e.1.1.1.1.1, i.2.1, ia.2.1, Bool.and_self, Bool.and_true, Bool.true_and]; decide +kernel, ?_⟩
    have cc := c.2
    simp only [enc, PyData.depthAll, dep] at cc
    simp only [num, PyData.depthAll, da_app, dep]
    omega
/-- what == and repr may be asked about -/
structure Fine (d : PD) : Prop where
  cl : d.canLay0 = true
  dp : d.depth ≤ 64
  sh : d.showable = true
  tx : d.shown.length ≤ 16777216
theorem Fine.shp {d : PD} (h : Fine d) : SeqAt.shaped d = true := by
  simp only [SeqAt.shaped, h.cl, Bool.true_and]
  exact decide_eq_true h.dp
theorem fine_enc {b : Blk} (ok : okB b = true) (hd : dep b ≤ 20) (hw : wt b ≤ 2010) : Fine (.tuple (enc b)) := by
  have c := enc_cl b ok
  have t := tx_tuple (enc b)
  have x := enc_tx b ok
  refine ⟨by simp only [PyData.canLay0, c.1], by simp only [PyData.depth]; omega, by simp only [PyData.showable, enc_sh b ok], by omega⟩
theorem fine_num {b : Blk} (ok : okB b = true) (hd : dep b ≤ 20) (hw : wt b ≤ 2010) : Fine (.list (num b)) := by
  have c := num_all b ok
  have t := tx_list (num b)
  have x := num_tx b ok
  have y : dep b * (200 * wt b) ≤ 20 * (200 * 2010) := Nat.mul_le_mul hd (by omega)
  refine ⟨by simp only [PyData.canLay0, c.2.1], by simp only [PyData.depth]; omega, by simp only [PyData.showable, c.1], by omega⟩
theorem log_small {n : Nat} (h : n < 2 ^ 64) : n.log2 < 1920 := by
  by_cases e : n = 0
  · subst e; decide
  · exact (Nat.log2_lt e).mpr (Nat.lt_of_lt_of_le h (Nat.pow_le_pow_right (by decide) (by decide)))
theorem int_tx {n : Nat} (h : n ≤ 100000) : (PyData.int (n : Int)).shown.length ≤ 10 := by
  simp only [PyData.shown]
  exact PyProof.Rows.toString_length_le (by omega) (by decide) (by omega)
theorem int_sh {n : Nat} (h : n ≤ 100000) : (PyData.int (n : Int)).showable = true := by
  simp only [PyData.showable]
  exact decide_eq_true (log_small (by rw [Int.natAbs_natCast]; omega))
theorem fine_int {n : Nat} (h : n ≤ 100000) : Fine (.int (n : Int)) :=
  ⟨by simp only [PyData.canLay0], by simp only [PyData.depth]; omega, int_sh h, Nat.le_trans (int_tx h) (by decide)⟩
theorem fine_bool (b : Bool) : Fine (.bool b) := ⟨by simp only [PyData.canLay0], by simp only [PyData.depth]; omega, by simp only [PyData.showable], by cases b <;> decide +kernel⟩
theorem oN_tx {o : Option Nat} (h : ∀ x, o = some x → x ≤ 100000) : (oN o).shown.length ≤ 10 ∧ (oN o).showable = true ∧ (oN o).canLay0 = true ∧ (oN o).depth = 0 := by
  cases o with
  | none => decide +kernel
  | some n => exact ⟨int_tx (h n rfl), int_sh (h n rfl), by simp only [oN, PyData.canLay0], by simp only [oN, PyData.depth]⟩
theorem tab_all : ∀ T : Tb, (∀ o ∈ T, ∀ x, o = some x → x ≤ 100000) → txA (T.map oN) ≤ 12 * T.length ∧ PyData.showableAll (T.map oN) = true ∧ PyData.canLayAll0 (T.map oN) = true ∧ PyData.depthAll (T.map oN) = 0
  | [], _ => by simp [txA, PyData.showableAll, PyData.canLayAll0, PyData.depthAll]
  | o :: T, h => by
    have i := tab_all T fun x hx => h x (List.mem_cons_of_mem _ hx)
    have q := oN_tx (h o (List.mem_cons_self ..))
    refine ⟨?_, by simp only [List.map_cons, PyData.showableAll, q.2.1, i.2.1, Bool.and_self], by simp only [List.map_cons, PyData.canLayAll0, q.2.2.1, i.2.2.1, Bool.and_self], ?_⟩
    · simp only [List.map_cons, txA, List.length_cons]; omega
    · simp only [List.map_cons, PyData.depthAll, q.2.2.2, i.2.2.2]; rfl
theorem fine_tab {b : Blk} (hw : wt b ≤ 2010) : Fine (.list ((tab b 0 none).map oN)) := by
  have c := tab_all (tab b 0 none) fun o ho => tab_bd b 0 none 100000 (by omega) (fun x z => by cases z) o ho
  have t := tx_list ((tab b 0 none).map oN)
  have l := tab_len b 0 none
  refine ⟨by simp only [PyData.canLay0, c.2.2.1], by simp only [PyData.depth]; omega, by simp only [PyData.showable, c.2.1], by omega⟩
theorem eqD_refl : ∀ {d : PD}, SeqAt.shaped d = true → eqD d d = some true
  | .none, _ => rfl
  | .bool b, _ => by simp [eqD]
  | .int i, _ => by simp [eqD]
  | .str x, _ => by simp [eqD]
  | .list xs, h => by
    simp only [eqD, h, and_self, if_true, SeqAt.eqv_refl _ (SeqAt.canLay_of_shaped h)]
  | .tuple xs, h => by
    simp only [eqD, h, and_self, if_true, SeqAt.eqv_refl _ (SeqAt.canLay_of_shaped h)]
  | .dict _, h => by simp [SeqAt.shaped, PyData.canLay0] at h
theorem eqD_str (s : Str) : eqD (.str s) (.str s) = some true := by simp [eqD]
theorem run22 (k : Nat) (as : DEn) : fnK rs gl0 (k + 1) 22 as = runF ⟨fnK rs gl0 k, gl0⟩ 2 2 ir__law_alike as := rfl
theorem alike_ok (k : Nat) {d : PD} (h : Fine d) : fnK rs gl0 (k + 1) 22 [.val d, .val d] = some (.val (.bool true), [.un, .un]) := by
  have e := eqD_refl h.shp
  have e2 := PyData.hasDict_of_canLay d h.cl
  have e3 := h.tx
  have e4 : d.depth ≤ 100 := Nat.le_trans h.dp (by decide)
  have e5 := h.sh
  have e6 := eqD_str d.shown
  rw [run22]
  simp only [runF, tagA, outsA, oXt_non, oXf_non, oXt_bl, oXf_bl, oXt_int, oXf_int, oXt_str, oXf_str, oXt_glb, oXf_glb, oXt_bin, oXf_bin, oXt_neg, oXf_neg, oXt_not, oXf_not, oXt_cmp, oXf_cmp, oXt_chain, oXf_chain, oXt_and, oXf_and, oXt_or, oXf_or, oXt_ife, oXf_ife, oXt_sub, oXf_sub, oXt_slc, oXf_slc, oXt_rev, oXf_rev, oXt_tup, oXf_tup, oXt_lst, oXf_lst, oXt_call, oXf_call, oXt_prim, oXf_prim, oXt_isi, oXf_isi, oXt_comp, oXf_comp, oXt_app, oXf_app, oXt_ext, oXf_ext, oXt_pop, oXf_pop, oXf_var, oXt_var, oX_lend, eX_var, eX_non, eX_bl, eX_int, eX_str, eX_glb, eX_bin, eX_neg, eX_not, eX_cmp, eX_chain, eX_and, eX_or, eX_ife, eX_sub, eX_slc, eX_rev, eX_tup, eX_lst, eX_call, eX_prim, eX_isi, eX_comp, eX_app, eX_ext, eX_pop, eP_nil, eP_cons, eL_nil, eL_cons, eI_rng1, eI_rng2, eI_cons, eS_nil, eS_cons, eS_set, eS_unp, eS_sti, eS_ex, eS_ifs, eS_whl, eS_fors, eS_brk, eS_cnt, eS_pas, eS_retv, eS_ret_non, eS_ret_bl, eS_ret_int, eS_ret_str, eS_ret_glb, eS_ret_bin, eS_ret_neg, eS_ret_not, eS_ret_cmp, eS_ret_chain, eS_ret_and, eS_ret_or, eS_ret_ife, eS_ret_sub, eS_ret_slc, eS_ret_rev, eS_ret_tup, eS_ret_lst, eS_ret_call, eS_ret_prim, eS_ret_isi, eS_ret_comp, eS_ret_app, eS_ret_ext, eS_ret_pop, lpS_nil, lpS_cons, cmS_nil, cmS_cons, rdO, rdS, rdAll, frz, valsOf, argsOf, slotsOf, putBack, subD, slD, prD, seqD, asg, asgs, bopD, copD, truS, List.mapIdx_cons, List.mapIdx_nil, List.getElem?_cons_zero, List.getElem?_cons_succ, List.set_cons_zero, List.set_cons_succ, List.length_cons, List.length_nil, List.cons_append, List.nil_append, List.replicate_zero, List.replicate_succ, List.append_nil, List.nodup_nil, List.nodup_cons, List.not_mem_nil, Nat.sub_self, Nat.add_one_sub_one, Nat.zero_lt_succ, if_true, if_false, eq_self_iff_true, reduceIte, reduceCtorEq, Nat.zero_le, slv, not_false_eq_true, and_self, and_true, true_and, List.singleton_append, Bool.not_true, Bool.not_false, List.foldl_nil, ite_true, ite_false, beq_self_eq_true, Nat.reduceAdd, Nat.reduceLT, Nat.reduceLeDiff, Nat.reduceSub, Nat.reduceEqDiff, Nat.reduceMul, Int.reduceAdd, Int.reduceLT, Int.reduceLE, Int.reduceNeg, Int.reduceEq, Int.reduceSub, decide_true, decide_false, decide_eq_true_eq, cond_true, cond_false, e, e2, e3, e4, e5, e6]
/-! behind -/
theorem tabl_ok (k : Nat) (b : Blk) (ok : okB b = true) (hk : dep b ≤ k) (hw : wt b ≤ 100000) : fnK rs gl0 (k + 2) 7 [.val (.tuple (enc b))] = some (.val (.tuple ((tab b 0 none).map oN)), [.un]) := by
  have e := addn_ok k b [] ok hk (by simp only [List.length_nil]; omega)
  rw [runN_top] at e
  simp only [List.map_nil] at e
  rw [run7]
  simp only [runF, tagA, outsA, oXt_non, oXf_non, oXt_bl, oXf_bl, oXt_int, oXf_int, oXt_str, oXf_str, oXt_glb, oXf_glb, oXt_bin, oXf_bin, oXt_neg, oXf_neg, oXt_not, oXf_not, oXt_cmp, oXf_cmp, oXt_chain, oXf_chain, oXt_and, oXf_and, oXt_or, oXf_or, oXt_ife, oXf_ife, oXt_sub, oXf_sub, oXt_slc, oXf_slc, oXt_rev, oXf_rev, oXt_tup, oXf_tup, oXt_lst, oXf_lst, oXt_call, oXf_call, oXt_prim, oXf_prim, oXt_isi, oXf_isi, oXt_comp, oXf_comp, oXt_app, oXf_app, oXt_ext, oXf_ext, oXt_pop, oXf_pop, oXf_var, oXt_var, oX_lend, eX_var, eX_non, eX_bl, eX_int, eX_str, eX_glb, eX_bin, eX_neg, eX_not, eX_cmp, eX_chain, eX_and, eX_or, eX_ife, eX_sub, eX_slc, eX_rev, eX_tup, eX_lst, eX_call, eX_prim, eX_isi, eX_comp, eX_app, eX_ext, eX_pop, eP_nil, eP_cons, eL_nil, eL_cons, eI_rng1, eI_rng2, eI_cons, eS_nil, eS_cons, eS_set, eS_unp, eS_sti, eS_ex, eS_ifs, eS_whl, eS_fors, eS_brk, eS_cnt, eS_pas, eS_retv, eS_ret_non, eS_ret_bl, eS_ret_int, eS_ret_str, eS_ret_glb, eS_ret_bin, eS_ret_neg, eS_ret_not, eS_ret_cmp, eS_ret_chain, eS_ret_and, eS_ret_or, eS_ret_ife, eS_ret_sub, eS_ret_slc, eS_ret_rev, eS_ret_tup, eS_ret_lst, eS_ret_call, eS_ret_prim, eS_ret_isi, eS_ret_comp, eS_ret_app, eS_ret_ext, eS_ret_pop, lpS_nil, lpS_cons, cmS_nil, cmS_cons, rdO, rdS, rdAll, frz, valsOf, argsOf, slotsOf, putBack, subD, slD, prD, seqD, asg, asgs, bopD, copD, eqD, truS, List.mapIdx_cons, List.mapIdx_nil, List.getElem?_cons_zero, List.getElem?_cons_succ, List.set_cons_zero, List.set_cons_succ, List.length_cons, List.length_nil, List.cons_append, List.nil_append, List.replicate_zero, List.replicate_succ, List.append_nil, List.nodup_nil, List.nodup_cons, List.not_mem_nil, Nat.sub_self, Nat.add_one_sub_one, Nat.zero_lt_succ, if_true, if_false, eq_self_iff_true, reduceIte, reduceCtorEq, Nat.zero_le, slv, not_false_eq_true, and_self, and_true, true_and, List.singleton_append, Bool.not_true, Bool.not_false, List.foldl_nil, ite_true, ite_false, beq_self_eq_true, Nat.reduceAdd, Nat.reduceLT, Nat.reduceLeDiff, Nat.reduceSub, Nat.reduceEqDiff, Nat.reduceMul, Int.reduceAdd, Int.reduceLT, Int.reduceLE, Int.reduceNeg, Int.reduceEq, Int.reduceSub, decide_true, decide_false, decide_eq_true_eq, cond_true, cond_false, e]
theorem atN {α : Type} {xs : List α} {i : Nat} {x : α} (h : xs[i]? = some x) : atI xs (i : Int) = some x := by
  have hl : i < xs.length := (List.getElem?_eq_some_iff.mp h).1
  unfold atI ixN
  rw [if_pos (by omega), if_pos (by omega), Option.bind_some, Int.toNat_natCast, h]
theorem behind_ok (k : Nat) (b : Blk) (ok : okB b = true) (hk : dep b ≤ k) (hw : wt b ≤ 100000) (i : Nat) (hi : i < wt b) : fnK rs gl0 (k + 3) 9 [.val (.tuple (enc b)), .val (.int ((i : Int) + 1))] = some (.val (oN ((tab b 0 none).getD i none)), [.un, .un]) := by
  have e := tabl_ok k b ok hk hw
  have l := tab_len b 0 none
  have q : ((tab b 0 none).map oN)[i]? = some (oN ((tab b 0 none).getD i none)) := by
    rw [List.getElem?_map, List.getD_eq_getElem?_getD, List.getElem?_eq_getElem (by omega)]
    rfl
  have q2 : atI ((tab b 0 none).map oN) ((i : Int) + 1 - 1) = some (oN ((tab b 0 none).getD i none)) := by
    rw [show (i : Int) + 1 - 1 = (i : Int) by omega]; exact atN q
  have c1 : (1 : Int) ≤ (i : Int) + 1 := by omega
  have c2 : (i : Int) + 1 ≤ (wt b : Int) := by omega
  rw [run9]
  simp only [runF, tagA, outsA, oXt_non, oXf_non, oXt_bl, oXf_bl, oXt_int, oXf_int, oXt_str, oXf_str, oXt_glb, oXf_glb, oXt_bin, oXf_bin, oXt_neg, oXf_neg, oXt_not, oXf_not, oXt_cmp, oXf_cmp, oXt_chain, oXf_chain, oXt_and, oXf_and, oXt_or, oXf_or, oXt_ife, oXf_ife, oXt_sub, oXf_sub, oXt_slc, oXf_slc, oXt_rev, oXf_rev, oXt_tup, oXf_tup, oXt_lst, oXf_lst, oXt_call, oXf_call, oXt_prim, oXf_prim, oXt_isi, oXf_isi, oXt_comp, oXf_comp, oXt_app, oXf_app, oXt_ext, oXf_ext, oXt_pop, oXf_pop, oXf_var, oXt_var, oX_lend, eX_var, eX_non, eX_bl, eX_int, eX_str, eX_glb, eX_bin, eX_neg, eX_not, eX_cmp, eX_chain, eX_and, eX_or, eX_ife, eX_sub, eX_slc, eX_rev, eX_tup, eX_lst, eX_call, eX_prim, eX_isi, eX_comp, eX_app, eX_ext, eX_pop, eP_nil, eP_cons, eL_nil, eL_cons, eI_rng1, eI_rng2, eI_cons, eS_nil, eS_cons, eS_set, eS_unp, eS_sti, eS_ex, eS_ifs, eS_whl, eS_fors, eS_brk, eS_cnt, eS_pas, eS_retv, eS_ret_non, eS_ret_bl, eS_ret_int, eS_ret_str, eS_ret_glb, eS_ret_bin, eS_ret_neg, eS_ret_not, eS_ret_cmp, eS_ret_chain, eS_ret_and, eS_ret_or, eS_ret_ife, eS_ret_sub, eS_ret_slc, eS_ret_rev, eS_ret_tup, eS_ret_lst, eS_ret_call, eS_ret_prim, eS_ret_isi, eS_ret_comp, eS_ret_app, eS_ret_ext, eS_ret_pop, lpS_nil, lpS_cons, cmS_nil, cmS_cons, rdO, rdS, rdAll, frz, valsOf, argsOf, slotsOf, putBack, subD, slD, prD, seqD, asg, asgs, bopD, copD, eqD, truS, List.mapIdx_cons, List.mapIdx_nil, List.getElem?_cons_zero, List.getElem?_cons_succ, List.set_cons_zero, List.set_cons_succ, List.length_cons, List.length_nil, List.cons_append, List.nil_append, List.replicate_zero, List.replicate_succ, List.append_nil, List.nodup_nil, List.nodup_cons, List.not_mem_nil, Nat.sub_self, Nat.add_one_sub_one, Nat.zero_lt_succ, if_true, if_false, eq_self_iff_true, reduceIte, reduceCtorEq, Nat.zero_le, slv, not_false_eq_true, and_self, and_true, true_and, List.singleton_append, Bool.not_true, Bool.not_false, List.foldl_nil, ite_true, ite_false, beq_self_eq_true, Nat.reduceAdd, Nat.reduceLT, Nat.reduceLeDiff, Nat.reduceSub, Nat.reduceEqDiff, Nat.reduceMul, Int.reduceAdd, Int.reduceLT, Int.reduceLE, Int.reduceNeg, Int.reduceEq, Int.reduceSub, decide_true, decide_false, decide_eq_true_eq, cond_true, cond_false, e, List.length_map, l, c1, c2, q2]
theorem rngD0 {n : Nat} (h : n ≤ 100000) : rngD 0 (n : Int) = some ((List.range n).map fun (k : Nat) => PyData.int (k : Int)) := by
  have p : (2 : Int) ^ 62 = 4611686018427387904 := by decide +kernel
  unfold rngD
  rw [p, if_pos (by omega)]
  congr 1
  rw [show ((n : Int) - 0).toNat = n by omega]
  refine List.map_congr_left fun k _ => ?_
  rw [Int.zero_add]
def rgK (o : Option (List PD)) (ρ : DEn) : Option (List PD × DEn) := match o with
  | some ds => some (ds, ρ)
  | none => none
theorem eI_rngK (C : Cfg) (m : Bool) (a : Ir) (ρ : DEn) : evI C m (.rng1 a) ρ = (match evX C a ρ with | some (.val (.int j), ρ1) => rgK (rngD 0 j) ρ1 | _ => none) := rfl
theorem eI_rngN {C : Cfg} {m : Bool} {a : Ir} {ρ ρ1 : DEn} {n : Nat} (h : evX C a ρ = some (.val (.int (n : Int)), ρ1)) (hn : n ≤ 100000) : evI C m (.rng1 a) ρ = some ((List.range n).map (fun (k : Nat) => PyData.int (k : Int)), ρ1) := by
  have r := rngD0 hn
  rw [eI_rngK, h]
  dsimp only
  generalize rngD 0 (n : Int) = R at *
  rw [r]
  rfl
def iI (k : Nat) : PD := .int (k : Int)
theorem told_loop (k : Nat) (b : Blk) (ok : okB b = true) (hk : dep b ≤ k) (hw : wt b ≤ 100000) (z s3 : Slo) : ∀ (is : List Nat) (acc : List PD), (∀ i ∈ is, i < wt b) → acc.length + is.length ≤ 100000 →
    cmS ⟨fnK rs gl0 (k + 3), gl0⟩ (.var 2) (.bl true) (.call 9 (.cons (.var 1) (.cons (.bin .add (.var 2) (.int 1)) .nil))) [z, .val (.tuple (enc b)), .un, s3] (is.map fun (k : Nat) => PyData.int (k : Int)) acc = some (acc ++ is.map fun i => oN ((tab b 0 none).getD i none))
  | [], acc, _, _ => by simp only [List.map_nil, cmS_nil, List.append_nil]
  | i :: is, acc, h, l => by
    have e := behind_ok k b ok hk hw i (h i (List.mem_cons_self ..))
    simp only [List.length_cons] at l
    have j := told_loop k b ok hk hw z s3 is (acc ++ [oN ((tab b 0 none).getD i none)]) (fun x hx => h x (List.mem_cons_of_mem _ hx)) (by simp only [List.length_append, List.length_cons, List.length_nil]; omega)
    have l' : acc.length < 16777216 := by omega
    simp only [List.map_cons, runF, tagA, outsA, oXt_non, oXf_non, oXt_bl, oXf_bl, oXt_int, oXf_int, oXt_str, oXf_str, oXt_glb, oXf_glb, oXt_bin, oXf_bin, oXt_neg, oXf_neg, oXt_not, oXf_not, oXt_cmp, oXf_cmp, oXt_chain, oXf_chain, oXt_and, oXf_and, oXt_or, oXf_or, oXt_ife, oXf_ife, oXt_sub, oXf_sub, oXt_slc, oXf_slc, oXt_rev, oXf_rev, oXt_tup, oXf_tup, oXt_lst, oXf_lst, oXt_call, oXf_call, oXt_prim, oXf_prim, oXt_isi, oXf_isi, oXt_comp, oXf_comp, oXt_app, oXf_app, oXt_ext, oXf_ext, oXt_pop, oXf_pop, oXf_var, oXt_var, oX_lend, eX_var, eX_non, eX_bl, eX_int, eX_str, eX_glb, eX_bin, eX_neg, eX_not, eX_cmp, eX_chain, eX_and, eX_or, eX_ife, eX_sub, eX_slc, eX_rev, eX_tup, eX_lst, eX_call, eX_prim, eX_isi, eX_comp, eX_app, eX_ext, eX_pop, eP_nil, eP_cons, eL_nil, eL_cons, eI_rng1, eI_rng2, eI_cons, eS_nil, eS_cons, eS_set, eS_unp, eS_sti, eS_ex, eS_ifs, eS_whl, eS_fors, eS_brk, eS_cnt, eS_pas, eS_retv, eS_ret_non, eS_ret_bl, eS_ret_int, eS_ret_str, eS_ret_glb, eS_ret_bin, eS_ret_neg, eS_ret_not, eS_ret_cmp, eS_ret_chain, eS_ret_and, eS_ret_or, eS_ret_ife, eS_ret_sub, eS_ret_slc, eS_ret_rev, eS_ret_tup, eS_ret_lst, eS_ret_call, eS_ret_prim, eS_ret_isi, eS_ret_comp, eS_ret_app, eS_ret_ext, eS_ret_pop, lpS_nil, lpS_cons, cmS_nil, cmS_cons, rdO, rdS, rdAll, frz, valsOf, argsOf, slotsOf, putBack, subD, slD, prD, seqD, asg, asgs, bopD, copD, eqD, truS, List.mapIdx_cons, List.mapIdx_nil, List.getElem?_cons_zero, List.getElem?_cons_succ, List.set_cons_zero, List.set_cons_succ, List.length_cons, List.length_nil, List.cons_append, List.nil_append, List.replicate_zero, List.replicate_succ, List.append_nil, List.nodup_nil, List.nodup_cons, List.not_mem_nil, Nat.sub_self, Nat.add_one_sub_one, Nat.zero_lt_succ, if_true, if_false, eq_self_iff_true, reduceIte, reduceCtorEq, Nat.zero_le, slv, not_false_eq_true, and_self, and_true, true_and, List.singleton_append, Bool.not_true, Bool.not_false, List.foldl_nil, ite_true, ite_false, beq_self_eq_true, Nat.reduceAdd, Nat.reduceLT, Nat.reduceLeDiff, Nat.reduceSub, Nat.reduceEqDiff, Nat.reduceMul, Int.reduceAdd, Int.reduceLT, Int.reduceLE, Int.reduceNeg, Int.reduceEq, Int.reduceSub, decide_true, decide_false, decide_eq_true_eq, cond_true, cond_false, e, l', j, List.append_assoc]
theorem tab_range (b : Blk) : (List.range (wt b)).map (fun i => oN ((tab b 0 none).getD i none)) = (tab b 0 none).map oN := by
  have l := tab_len b 0 none
  refine List.ext_getElem (by simp [l]) fun i h1 h2 => ?_
  simp only [List.getElem_map, List.getElem_range]
  rw [List.getD_eq_getElem?_getD, List.getElem?_eq_getElem (by simpa using h2)]
  rfl
/-! a piece, and what is told of it -/
def pc (b : Blk) : PD := .list [.tuple (enc b), .list (num b), .list ((tab b 0 none).map oN), .bool (hasI b), .int (dep b)]
theorem p0 (a b c d e : PD) : atI [a, b, c, d, e] 0 = some a := rfl
theorem p1 (a b c d e : PD) : atI [a, b, c, d, e] 1 = some b := rfl
theorem p2 (a b c d e : PD) : atI [a, b, c, d, e] 2 = some c := rfl
theorem p3 (a b c d e : PD) : atI [a, b, c, d, e] 3 = some d := rfl
theorem p4 (a b c d e : PD) : atI [a, b, c, d, e] 4 = some e := rfl
theorem run23 (k : Nat) (as : DEn) : fnK rs gl0 (k + 1) 23 as = runF ⟨fnK rs gl0 k, gl0⟩ 1 4 ir__law_told as := rfl
theorem num_at {K : Nat} {b : Blk} (ok : okB b = true) (hk : dep b + 2 ≤ K) (hw : wt b ≤ 100000) : fnK rs gl0 K 5 [.val (.tuple (enc b))] = some (.own none (num b), [.un]) := by
  obtain ⟨k, rfl⟩ : ∃ k, K = k + 2 := ⟨K - 2, by omega⟩
  exact num_ok k b ok (by omega) hw
theorem dep_at {K : Nat} {b : Blk} (ok : okB b = true) (hk : dep b + 1 ≤ K) : fnK rs gl0 K 10 [.val (.tuple (enc b))] = some (.val (.int (dep b)), [.un]) := by
  obtain ⟨k, rfl⟩ : ∃ k, K = k + 1 := ⟨K - 1, by omega⟩
  exact dep_ok k b ok (by omega)
theorem hasI_at {K : Nat} {b : Blk} (ok : okB b = true) (hk : dep b + 1 ≤ K) : fnK rs gl0 K 1 [.val (.tuple (enc b))] = some (.val (.bool (hasI b)), [.un]) := by
  obtain ⟨k, rfl⟩ : ∃ k, K = k + 1 := ⟨K - 1, by omega⟩
  exact hasI_ok k b ok (by omega)
theorem with_at {K : Nat} {b : Blk} (ok : okB b = true) (hk : dep b + 2 ≤ K) (hw : wt b ≤ 100000) : fnK rs gl0 K 2 [.val (.tuple (enc b))] = some (.val (.tuple (cond (hasI b) (enc b) (enc b ++ [inn]))), [.un]) := by
  obtain ⟨k, rfl⟩ : ∃ k, K = k + 2 := ⟨K - 2, by omega⟩
  exact with_ok k b ok (by omega) hw
theorem alike_at {K : Nat} (hk : 1 ≤ K) {d : PD} (h : Fine d) : fnK rs gl0 K 22 [.val d, .val d] = some (.val (.bool true), [.un, .un]) := by
  obtain ⟨k, rfl⟩ : ∃ k, K = k + 1 := ⟨K - 1, by omega⟩
  exact alike_ok k h
theorem loop_at {K : Nat} {b : Blk} (ok : okB b = true) (hk : dep b + 3 ≤ K) (hw : wt b ≤ 100000) (z s3 : Slo) : cmS ⟨fnK rs gl0 K, gl0⟩ (.var 2) (.bl true) (.call 9 (.cons (.var 1) (.cons (.bin .add (.var 2) (.int 1)) .nil))) [z, .val (.tuple (enc b)), .un, s3] ((List.range (wt b)).map fun (k : Nat) => PyData.int (k : Int)) [] = some ((tab b 0 none).map oN) := by
  obtain ⟨k, rfl⟩ : ∃ k, K = k + 3 := ⟨K - 3, by omega⟩
  have c := told_loop k b ok (by omega) (by omega) z s3 (List.range (wt b)) [] (fun i hi => List.mem_range.mp hi) (by simp only [List.length_nil, List.length_range]; omega)
  rw [tab_range, List.nil_append] at c
  exact c
end Lw

set_option Elab.async false
set_option linter.all false
set_option maxRecDepth 100000
set_option maxHeartbeats 2000000
namespace Lw
open PySem PySem.Spec PyProof.Rows L2 Dv
theorem told_ok (K : Nat) (b : Blk) (ok : okB b = true) (hk : dep b + 3 ≤ K) (hd : dep b ≤ 20) (hw : wt b ≤ 2000) : fnK rs gl0 (K + 1) 23 [.val (pc b)] = some (.val (.bool true), [.un]) := by
  have e1 := num_at ok (show dep b + 2 ≤ K by omega) (by omega)
  have e2 := dep_at ok (show dep b + 1 ≤ K by omega)
  have e3 := hasI_at ok (show dep b + 1 ≤ K by omega)
  have e4 := with_at ok (show dep b + 2 ≤ K by omega) (by omega)
  have a1 := alike_at (show 1 ≤ K by omega) (fine_num ok hd (by omega))
  have a2 := alike_at (show 1 ≤ K by omega) (fine_int (n := dep b) (by omega))
  have a3 := alike_at (show 1 ≤ K by omega) (fine_tab (b := b) (by omega))
  have a4 := alike_at (show 1 ≤ K by omega) (fine_bool (hasI b))
  have c := loop_at ok hk (by omega) (.val (pc b)) .un
  have q0 : subD (pc b) (.int 0) = some (.tuple (enc b)) := rfl
  have q1 : subD (pc b) (.int 1) = some (.list (num b)) := rfl
  have q2 : subD (pc b) (.int 2) = some (.list ((tab b 0 none).map oN)) := rfl
  have q3 : subD (pc b) (.int 3) = some (.bool (hasI b)) := rfl
  have q4 : subD (pc b) (.int 4) = some (.int (dep b)) := rfl
  have s0 : evS ⟨fnK rs gl0 K, gl0⟩ (.set 1 false (.sub (.var 0) (.int 0))) [.val (pc b), .un, .un, .un] = some (.nx [.val (pc b), .val (.tuple (enc b)), .un, .un]) := by
    generalize pc b = P at *
    simp only [runF, tagA, outsA, oXt_non, oXf_non, oXt_bl, oXf_bl, oXt_int, oXf_int, oXt_str, oXf_str, oXt_glb, oXf_glb, oXt_bin, oXf_bin, oXt_neg, oXf_neg, oXt_not, oXf_not, oXt_cmp, oXf_cmp, oXt_chain, oXf_chain, oXt_and, oXf_and, oXt_or, oXf_or, oXt_ife, oXf_ife, oXt_sub, oXf_sub, oXt_slc, oXf_slc, oXt_rev, oXf_rev, oXt_tup, oXf_tup, oXt_lst, oXf_lst, oXt_call, oXf_call, oXt_prim, oXf_prim, oXt_isi, oXf_isi, oXt_comp, oXf_comp, oXt_app, oXf_app, oXt_ext, oXf_ext, oXt_pop, oXf_pop, oXf_var, oXt_var, oX_lend, eX_var, eX_non, eX_bl, eX_int, eX_str, eX_glb, eX_bin, eX_neg, eX_not, eX_cmp, eX_chain, eX_and, eX_or, eX_ife, eX_sub, eX_slc, eX_rev, eX_tup, eX_lst, eX_call, eX_prim, eX_isi, eX_comp, eX_app, eX_ext, eX_pop, eP_nil, eP_cons, eL_nil, eL_cons, eI_rng1, eI_rng2, eI_cons, eS_nil, eS_cons, eS_set, eS_unp, eS_sti, eS_ex, eS_ifs, eS_whl, eS_fors, eS_brk, eS_cnt, eS_pas, eS_retv, eS_ret_non, eS_ret_bl, eS_ret_int, eS_ret_str, eS_ret_glb, eS_ret_bin, eS_ret_neg, eS_ret_not, eS_ret_cmp, eS_ret_chain, eS_ret_and, eS_ret_or, eS_ret_ife, eS_ret_sub, eS_ret_slc, eS_ret_rev, eS_ret_tup, eS_ret_lst, eS_ret_call, eS_ret_prim, eS_ret_isi, eS_ret_comp, eS_ret_app, eS_ret_ext, eS_ret_pop, lpS_nil, lpS_cons, cmS_nil, cmS_cons, rdO, rdS, rdAll, frz, valsOf, argsOf, slotsOf, putBack, slD, prD, seqD, asg, asgs, bopD, copD, eqD, truS, List.mapIdx_cons, List.mapIdx_nil, List.getElem?_cons_zero, List.getElem?_cons_succ, List.set_cons_zero, List.set_cons_succ, List.length_cons, List.length_nil, List.cons_append, List.nil_append, List.replicate_zero, List.replicate_succ, List.append_nil, List.nodup_nil, List.nodup_cons, List.not_mem_nil, Nat.sub_self, Nat.add_one_sub_one, Nat.zero_lt_succ, if_true, if_false, eq_self_iff_true, reduceIte, reduceCtorEq, Nat.zero_le, slv, not_false_eq_true, and_self, and_true, true_and, List.singleton_append, Bool.not_true, Bool.not_false, List.foldl_nil, ite_true, ite_false, beq_self_eq_true, Nat.reduceAdd, Nat.reduceLT, Nat.reduceLeDiff, Nat.reduceSub, Nat.reduceEqDiff, Nat.reduceMul, Int.reduceAdd, Int.reduceLT, Int.reduceLE, Int.reduceNeg, Int.reduceEq, Int.reduceSub, decide_true, decide_false, decide_eq_true_eq, cond_true, cond_false, q0]
  have s1 : evS ⟨fnK rs gl0 K, gl0⟩ (.ifs (.or (.not (.call 22 (.cons (.call 5 (.cons (.var 1) .nil)) (.cons (.sub (.var 0) (.int 1)) .nil)))) (.not (.call 22 (.cons (.call 10 (.cons (.var 1) .nil)) (.cons (.sub (.var 0) (.int 4)) .nil))))) (.cons (.ret (.bl false)) .nil) .nil) [.val (pc b), .val (.tuple (enc b)), .un, .un] = some (.nx [.val (pc b), .val (.tuple (enc b)), .un, .un]) := by
    generalize pc b = P at *
    simp only [runF, tagA, outsA, oXt_non, oXf_non, oXt_bl, oXf_bl, oXt_int, oXf_int, oXt_str, oXf_str, oXt_glb, oXf_glb, oXt_bin, oXf_bin, oXt_neg, oXf_neg, oXt_not, oXf_not, oXt_cmp, oXf_cmp, oXt_chain, oXf_chain, oXt_and, oXf_and, oXt_or, oXf_or, oXt_ife, oXf_ife, oXt_sub, oXf_sub, oXt_slc, oXf_slc, oXt_rev, oXf_rev, oXt_tup, oXf_tup, oXt_lst, oXf_lst, oXt_call, oXf_call, oXt_prim, oXf_prim, oXt_isi, oXf_isi, oXt_comp, oXf_comp, oXt_app, oXf_app, oXt_ext, oXf_ext, oXt_pop, oXf_pop, oXf_var, oXt_var, oX_lend, eX_var, eX_non, eX_bl, eX_int, eX_str, eX_glb, eX_bin, eX_neg, eX_not, eX_cmp, eX_chain, eX_and, eX_or, eX_ife, eX_sub, eX_slc, eX_rev, eX_tup, eX_lst, eX_call, eX_prim, eX_isi, eX_comp, eX_app, eX_ext, eX_pop, eP_nil, eP_cons, eL_nil, eL_cons, eI_rng1, eI_rng2, eI_cons, eS_nil, eS_cons, eS_set, eS_unp, eS_sti, eS_ex, eS_ifs, eS_whl, eS_fors, eS_brk, eS_cnt, eS_pas, eS_retv, eS_ret_non, eS_ret_bl, eS_ret_int, eS_ret_str, eS_ret_glb, eS_ret_bin, eS_ret_neg, eS_ret_not, eS_ret_cmp, eS_ret_chain, eS_ret_and, eS_ret_or, eS_ret_ife, eS_ret_sub, eS_ret_slc, eS_ret_rev, eS_ret_tup, eS_ret_lst, eS_ret_call, eS_ret_prim, eS_ret_isi, eS_ret_comp, eS_ret_app, eS_ret_ext, eS_ret_pop, lpS_nil, lpS_cons, cmS_nil, cmS_cons, rdO, rdS, rdAll, frz, valsOf, argsOf, slotsOf, putBack, slD, prD, seqD, asg, asgs, bopD, copD, eqD, truS, List.mapIdx_cons, List.mapIdx_nil, List.getElem?_cons_zero, List.getElem?_cons_succ, List.set_cons_zero, List.set_cons_succ, List.length_cons, List.length_nil, List.cons_append, List.nil_append, List.replicate_zero, List.replicate_succ, List.append_nil, List.nodup_nil, List.nodup_cons, List.not_mem_nil, Nat.sub_self, Nat.add_one_sub_one, Nat.zero_lt_succ, if_true, if_false, eq_self_iff_true, reduceIte, reduceCtorEq, Nat.zero_le, slv, not_false_eq_true, and_self, and_true, true_and, List.singleton_append, Bool.not_true, Bool.not_false, List.foldl_nil, ite_true, ite_false, beq_self_eq_true, Nat.reduceAdd, Nat.reduceLT, Nat.reduceLeDiff, Nat.reduceSub, Nat.reduceEqDiff, Nat.reduceMul, Int.reduceAdd, Int.reduceLT, Int.reduceLE, Int.reduceNeg, Int.reduceEq, Int.reduceSub, decide_true, decide_false, decide_eq_true_eq, cond_true, cond_false, q1, q4, e1, e2, a1, a2]
  have l2 : evX ⟨fnK rs gl0 K, gl0⟩ (.prim .len (.cons (.sub (.var 0) (.int 1)) .nil)) [.val (pc b), .val (.tuple (enc b)), .un, .un] = some (.val (.int (wt b : Int)), [.val (pc b), .val (.tuple (enc b)), .un, .un]) := by
    generalize pc b = P at *
    simp only [runF, tagA, outsA, oXt_non, oXf_non, oXt_bl, oXf_bl, oXt_int, oXf_int, oXt_str, oXf_str, oXt_glb, oXf_glb, oXt_bin, oXf_bin, oXt_neg, oXf_neg, oXt_not, oXf_not, oXt_cmp, oXf_cmp, oXt_chain, oXf_chain, oXt_and, oXf_and, oXt_or, oXf_or, oXt_ife, oXf_ife, oXt_sub, oXf_sub, oXt_slc, oXf_slc, oXt_rev, oXf_rev, oXt_tup, oXf_tup, oXt_lst, oXf_lst, oXt_call, oXf_call, oXt_prim, oXf_prim, oXt_isi, oXf_isi, oXt_comp, oXf_comp, oXt_app, oXf_app, oXt_ext, oXf_ext, oXt_pop, oXf_pop, oXf_var, oXt_var, oX_lend, eX_var, eX_non, eX_bl, eX_int, eX_str, eX_glb, eX_bin, eX_neg, eX_not, eX_cmp, eX_chain, eX_and, eX_or, eX_ife, eX_sub, eX_slc, eX_rev, eX_tup, eX_lst, eX_call, eX_prim, eX_isi, eX_comp, eX_app, eX_ext, eX_pop, eP_nil, eP_cons, eL_nil, eL_cons, eI_rng1, eI_rng2, eI_cons, eS_nil, eS_cons, eS_set, eS_unp, eS_sti, eS_ex, eS_ifs, eS_whl, eS_fors, eS_brk, eS_cnt, eS_pas, eS_retv, eS_ret_non, eS_ret_bl, eS_ret_int, eS_ret_str, eS_ret_glb, eS_ret_bin, eS_ret_neg, eS_ret_not, eS_ret_cmp, eS_ret_chain, eS_ret_and, eS_ret_or, eS_ret_ife, eS_ret_sub, eS_ret_slc, eS_ret_rev, eS_ret_tup, eS_ret_lst, eS_ret_call, eS_ret_prim, eS_ret_isi, eS_ret_comp, eS_ret_app, eS_ret_ext, eS_ret_pop, lpS_nil, lpS_cons, cmS_nil, cmS_cons, rdO, rdS, rdAll, frz, valsOf, argsOf, slotsOf, putBack, slD, prD, seqD, asg, asgs, bopD, copD, eqD, truS, List.mapIdx_cons, List.mapIdx_nil, List.getElem?_cons_zero, List.getElem?_cons_succ, List.set_cons_zero, List.set_cons_succ, List.length_cons, List.length_nil, List.cons_append, List.nil_append, List.replicate_zero, List.replicate_succ, List.append_nil, List.nodup_nil, List.nodup_cons, List.not_mem_nil, Nat.sub_self, Nat.add_one_sub_one, Nat.zero_lt_succ, if_true, if_false, eq_self_iff_true, reduceIte, reduceCtorEq, Nat.zero_le, slv, not_false_eq_true, and_self, and_true, true_and, List.singleton_append, Bool.not_true, Bool.not_false, List.foldl_nil, ite_true, ite_false, beq_self_eq_true, Nat.reduceAdd, Nat.reduceLT, Nat.reduceLeDiff, Nat.reduceSub, Nat.reduceEqDiff, Nat.reduceMul, Int.reduceAdd, Int.reduceLT, Int.reduceLE, Int.reduceNeg, Int.reduceEq, Int.reduceSub, decide_true, decide_false, decide_eq_true_eq, cond_true, cond_false, q1, num_len]
  have r := eI_rngN (m := true) l2 (by omega)
  have s2a : evX ⟨fnK rs gl0 K, gl0⟩ (.comp (.var 2) (.rng1 (.prim .len (.cons (.sub (.var 0) (.int 1)) .nil))) (.bl true) (.call 9 (.cons (.var 1) (.cons (.bin .add (.var 2) (.int 1)) .nil))) [2]) [.val (pc b), .val (.tuple (enc b)), .un, .un] = some (.own none ((tab b 0 none).map oN), [.val (pc b), .val (.tuple (enc b)), .un, .un]) := by
    generalize pc b = P at *
    rw [eX_comp, r]
    dsimp only
    rw [show blkD [.val P, .val (.tuple (enc b)), .un, .un] [2] = [.val P, .val (.tuple (enc b)), .un, .un] from rfl, c]
  have s2 : evS ⟨fnK rs gl0 K, gl0⟩ (.ifs (.not (.call 22 (.cons (.comp (.var 2) (.rng1 (.prim .len (.cons (.sub (.var 0) (.int 1)) .nil))) (.bl true) (.call 9 (.cons (.var 1) (.cons (.bin .add (.var 2) (.int 1)) .nil))) [2]) (.cons (.sub (.var 0) (.int 2)) .nil)))) (.cons (.ret (.bl false)) .nil) .nil) [.val (pc b), .val (.tuple (enc b)), .un, .un] = some (.nx [.val (pc b), .val (.tuple (enc b)), .un, .un]) := by
    generalize pc b = P at *
    simp only [runF, tagA, outsA, oXt_non, oXf_non, oXt_bl, oXf_bl, oXt_int, oXf_int, oXt_str, oXf_str, oXt_glb, oXf_glb, oXt_bin, oXf_bin, oXt_neg, oXf_neg, oXt_not, oXf_not, oXt_cmp, oXf_cmp, oXt_chain, oXf_chain, oXt_and, oXf_and, oXt_or, oXf_or, oXt_ife, oXf_ife, oXt_sub, oXf_sub, oXt_slc, oXf_slc, oXt_rev, oXf_rev, oXt_tup, oXf_tup, oXt_lst, oXf_lst, oXt_call, oXf_call, oXt_prim, oXf_prim, oXt_isi, oXf_isi, oXt_comp, oXf_comp, oXt_app, oXf_app, oXt_ext, oXf_ext, oXt_pop, oXf_pop, oXf_var, oXt_var, oX_lend, eX_var, eX_non, eX_bl, eX_int, eX_str, eX_glb, eX_bin, eX_neg, eX_not, eX_cmp, eX_chain, eX_and, eX_or, eX_ife, eX_sub, eX_slc, eX_rev, eX_tup, eX_lst, eX_call, eX_prim, eX_isi, eX_app, eX_ext, eX_pop, eP_nil, eP_cons, eL_nil, eL_cons, eI_rng2, eI_cons, eS_nil, eS_cons, eS_set, eS_unp, eS_sti, eS_ex, eS_ifs, eS_whl, eS_fors, eS_brk, eS_cnt, eS_pas, eS_retv, eS_ret_non, eS_ret_bl, eS_ret_int, eS_ret_str, eS_ret_glb, eS_ret_bin, eS_ret_neg, eS_ret_not, eS_ret_cmp, eS_ret_chain, eS_ret_and, eS_ret_or, eS_ret_ife, eS_ret_sub, eS_ret_slc, eS_ret_rev, eS_ret_tup, eS_ret_lst, eS_ret_call, eS_ret_prim, eS_ret_isi, eS_ret_comp, eS_ret_app, eS_ret_ext, eS_ret_pop, lpS_nil, lpS_cons, cmS_nil, cmS_cons, rdO, rdS, rdAll, frz, valsOf, argsOf, slotsOf, putBack, slD, prD, seqD, asg, asgs, bopD, copD, eqD, truS, List.mapIdx_cons, List.mapIdx_nil, List.getElem?_cons_zero, List.getElem?_cons_succ, List.set_cons_zero, List.set_cons_succ, List.length_cons, List.length_nil, List.cons_append, List.nil_append, List.replicate_zero, List.replicate_succ, List.append_nil, List.nodup_nil, List.nodup_cons, List.not_mem_nil, Nat.sub_self, Nat.add_one_sub_one, Nat.zero_lt_succ, if_true, if_false, eq_self_iff_true, reduceIte, reduceCtorEq, Nat.zero_le, slv, not_false_eq_true, and_self, and_true, true_and, List.singleton_append, Bool.not_true, Bool.not_false, List.foldl_nil, ite_true, ite_false, beq_self_eq_true, Nat.reduceAdd, Nat.reduceLT, Nat.reduceLeDiff, Nat.reduceSub, Nat.reduceEqDiff, Nat.reduceMul, Int.reduceAdd, Int.reduceLT, Int.reduceLE, Int.reduceNeg, Int.reduceEq, Int.reduceSub, decide_true, decide_false, decide_eq_true_eq, cond_true, cond_false, q2, s2a, a3]
  rw [run23]
  cases h : hasI b with
  | true =>
    rw [h] at e3 e4 a4 q3
    have a5 := alike_at (show 1 ≤ K by omega) (fine_enc ok hd (by omega))
    simp only [cond_true] at e4
    generalize pc b = P at *
    simp only [runF, tagA, outsA, oXt_non, oXf_non, oXt_bl, oXf_bl, oXt_int, oXf_int, oXt_str, oXf_str, oXt_glb, oXf_glb, oXt_bin, oXf_bin, oXt_neg, oXf_neg, oXt_not, oXf_not, oXt_cmp, oXf_cmp, oXt_chain, oXf_chain, oXt_and, oXf_and, oXt_or, oXf_or, oXt_ife, oXf_ife, oXt_sub, oXf_sub, oXt_slc, oXf_slc, oXt_rev, oXf_rev, oXt_tup, oXf_tup, oXt_lst, oXf_lst, oXt_call, oXf_call, oXt_prim, oXf_prim, oXt_isi, oXf_isi, oXt_comp, oXf_comp, oXt_app, oXf_app, oXt_ext, oXf_ext, oXt_pop, oXf_pop, oXf_var, oXt_var, oX_lend, eX_var, eX_non, eX_bl, eX_int, eX_str, eX_glb, eX_bin, eX_neg, eX_not, eX_cmp, eX_chain, eX_and, eX_or, eX_ife, eX_sub, eX_slc, eX_rev, eX_tup, eX_lst, eX_call, eX_prim, eX_isi, eX_app, eX_ext, eX_pop, eP_nil, eP_cons, eL_nil, eL_cons, eI_rng2, eI_cons, eS_nil, eS_cons, eS_set, eS_unp, eS_sti, eS_ex, eS_ifs, eS_whl, eS_fors, eS_brk, eS_cnt, eS_pas, eS_retv, eS_ret_non, eS_ret_bl, eS_ret_int, eS_ret_str, eS_ret_glb, eS_ret_bin, eS_ret_neg, eS_ret_not, eS_ret_cmp, eS_ret_chain, eS_ret_and, eS_ret_or, eS_ret_ife, eS_ret_sub, eS_ret_slc, eS_ret_rev, eS_ret_tup, eS_ret_lst, eS_ret_call, eS_ret_prim, eS_ret_isi, eS_ret_comp, eS_ret_app, eS_ret_ext, eS_ret_pop, lpS_nil, lpS_cons, cmS_nil, cmS_cons, rdO, rdS, rdAll, frz, valsOf, argsOf, slotsOf, putBack, slD, prD, seqD, asg, asgs, bopD, copD, eqD, truS, List.mapIdx_cons, List.mapIdx_nil, List.getElem?_cons_zero, List.getElem?_cons_succ, List.set_cons_zero, List.set_cons_succ, List.length_cons, List.length_nil, List.cons_append, List.nil_append, List.replicate_zero, List.replicate_succ, List.append_nil, List.nodup_nil, List.nodup_cons, List.not_mem_nil, Nat.sub_self, Nat.add_one_sub_one, Nat.zero_lt_succ, if_true, if_false, eq_self_iff_true, reduceIte, reduceCtorEq, Nat.zero_le, slv, not_false_eq_true, and_self, and_true, true_and, List.singleton_append, Bool.not_true, Bool.not_false, List.foldl_nil, ite_true, ite_false, beq_self_eq_true, Nat.reduceAdd, Nat.reduceLT, Nat.reduceLeDiff, Nat.reduceSub, Nat.reduceEqDiff, Nat.reduceMul, Int.reduceAdd, Int.reduceLT, Int.reduceLE, Int.reduceNeg, Int.reduceEq, Int.reduceSub, decide_true, decide_false, decide_eq_true_eq, cond_true, cond_false, q0, q1, q2, q3, q4, e3, e4, a4, a5, s0, s1, s2]
  | false =>
    rw [h] at e3 e4 a4 q3
    have ok' : okB (app b (.inner .nil)) = true := by rw [okB_app, ok]; rfl
    have a5 := alike_at (show 1 ≤ K by omega) (fine_enc ok' (by rw [dep_app]; simp only [dep]; omega) (by rw [wt_app]; simp only [wt]; omega))
    rw [enc_app] at a5
    simp only [enc] at a5
    simp only [cond_false] at e4
    have l := enc_len b
    have l' : (enc b).length + 1 ≤ 16777216 := by omega
    simp only [inn] at a5 e4
    generalize pc b = P at *
    simp only [runF, tagA, outsA, oXt_non, oXf_non, oXt_bl, oXf_bl, oXt_int, oXf_int, oXt_str, oXf_str, oXt_glb, oXf_glb, oXt_bin, oXf_bin, oXt_neg, oXf_neg, oXt_not, oXf_not, oXt_cmp, oXf_cmp, oXt_chain, oXf_chain, oXt_and, oXf_and, oXt_or, oXf_or, oXt_ife, oXf_ife, oXt_sub, oXf_sub, oXt_slc, oXf_slc, oXt_rev, oXf_rev, oXt_tup, oXf_tup, oXt_lst, oXf_lst, oXt_call, oXf_call, oXt_prim, oXf_prim, oXt_isi, oXf_isi, oXt_comp, oXf_comp, oXt_app, oXf_app, oXt_ext, oXf_ext, oXt_pop, oXf_pop, oXf_var, oXt_var, oX_lend, eX_var, eX_non, eX_bl, eX_int, eX_str, eX_glb, eX_bin, eX_neg, eX_not, eX_cmp, eX_chain, eX_and, eX_or, eX_ife, eX_sub, eX_slc, eX_rev, eX_tup, eX_lst, eX_call, eX_prim, eX_isi, eX_app, eX_ext, eX_pop, eP_nil, eP_cons, eL_nil, eL_cons, eI_rng2, eI_cons, eS_nil, eS_cons, eS_set, eS_unp, eS_sti, eS_ex, eS_ifs, eS_whl, eS_fors, eS_brk, eS_cnt, eS_pas, eS_retv, eS_ret_non, eS_ret_bl, eS_ret_int, eS_ret_str, eS_ret_glb, eS_ret_bin, eS_ret_neg, eS_ret_not, eS_ret_cmp, eS_ret_chain, eS_ret_and, eS_ret_or, eS_ret_ife, eS_ret_sub, eS_ret_slc, eS_ret_rev, eS_ret_tup, eS_ret_lst, eS_ret_call, eS_ret_prim, eS_ret_isi, eS_ret_comp, eS_ret_app, eS_ret_ext, eS_ret_pop, lpS_nil, lpS_cons, cmS_nil, cmS_cons, rdO, rdS, rdAll, frz, valsOf, argsOf, slotsOf, putBack, slD, prD, seqD, asg, asgs, bopD, copD, eqD, truS, List.mapIdx_cons, List.mapIdx_nil, List.getElem?_cons_zero, List.getElem?_cons_succ, List.set_cons_zero, List.set_cons_succ, List.length_cons, List.length_nil, List.cons_append, List.nil_append, List.replicate_zero, List.replicate_succ, List.append_nil, List.nodup_nil, List.nodup_cons, List.not_mem_nil, Nat.sub_self, Nat.add_one_sub_one, Nat.zero_lt_succ, if_true, if_false, eq_self_iff_true, reduceIte, reduceCtorEq, Nat.zero_le, slv, not_false_eq_true, and_self, and_true, true_and, List.singleton_append, Bool.not_true, Bool.not_false, List.foldl_nil, ite_true, ite_false, beq_self_eq_true, Nat.reduceAdd, Nat.reduceLT, Nat.reduceLeDiff, Nat.reduceSub, Nat.reduceEqDiff, Nat.reduceMul, Int.reduceAdd, Int.reduceLT, Int.reduceLE, Int.reduceNeg, Int.reduceEq, Int.reduceSub, decide_true, decide_false, decide_eq_true_eq, cond_true, cond_false, q0, q1, q2, q3, q4, e3, e4, a4, a5, l', s0, s1, s2]
end Lw

set_option Elab.async false
set_option linter.all false
set_option maxRecDepth 100000
set_option maxHeartbeats 2000000
namespace Lw
open PySem PySem.Spec PyProof.Rows L2 Dv
theorem run11 (k : Nat) (as : DEn) : fnK rs gl0 (k + 1) 11 as = runF ⟨fnK rs gl0 k, gl0⟩ 2 2 ir__law_cell as := rfl
theorem run12 (k : Nat) (as : DEn) : fnK rs gl0 (k + 1) 12 as = runF ⟨fnK rs gl0 k, gl0⟩ 2 7 ir__law_draws as := rfl
theorem run13 (k : Nat) (as : DEn) : fnK rs gl0 (k + 1) 13 as = runF ⟨fnK rs gl0 k, gl0⟩ 0 0 ir__law_none as := rfl
theorem run14 (k : Nat) (as : DEn) : fnK rs gl0 (k + 1) 14 as = runF ⟨fnK rs gl0 k, gl0⟩ 1 1 ir__law_lone as := rfl
theorem run15 (k : Nat) (as : DEn) : fnK rs gl0 (k + 1) 15 as = runF ⟨fnK rs gl0 k, gl0⟩ 3 5 ir__law_shifted as := rfl
theorem run16 (k : Nat) (as : DEn) : fnK rs gl0 (k + 1) 16 as = runF ⟨fnK rs gl0 k, gl0⟩ 2 5 ir__law_both as := rfl
theorem run17 (k : Nat) (as : DEn) : fnK rs gl0 (k + 1) 17 as = runF ⟨fnK rs gl0 k, gl0⟩ 3 5 ir__law_if as := rfl
theorem run18 (k : Nat) (as : DEn) : fnK rs gl0 (k + 1) 18 as = runF ⟨fnK rs gl0 k, gl0⟩ 2 3 ir__law_while as := rfl
theorem run19 (k : Nat) (as : DEn) : fnK rs gl0 (k + 1) 19 as = runF ⟨fnK rs gl0 k, gl0⟩ 2 5 ir__law_simple as := rfl
theorem cell_ok {K : Nat} (hK : 1 ≤ K) (ns : List Int) (i : Nat) : ∃ c : Int, fnK rs gl0 K 11 [.val (.list (ns.map PyData.int)), .val (.int (i : Int))] = some (.val (.int c), [.un, .un]) := by
  obtain ⟨k, rfl⟩ : ∃ k, K = k + 1 := ⟨K - 1, by omega⟩
  rw [run11]
  by_cases h : i < ns.length
  · have e : atI (ns.map PyData.int) (i : Int) = some (.int ns[i]) := atN (by rw [List.getElem?_map, List.getElem?_eq_getElem h]; rfl)
    have h' : (i : Int) < (ns.length : Int) := by omega
    exact ⟨ns[i], by simp only [runF, tagA, outsA, oXt_non, oXf_non, oXt_bl, oXf_bl, oXt_int, oXf_int, oXt_str, oXf_str, oXt_glb, oXf_glb, oXt_bin, oXf_bin, oXt_neg, oXf_neg, oXt_not, oXf_not, oXt_cmp, oXf_cmp, oXt_chain, oXf_chain, oXt_and, oXf_and, oXt_or, oXf_or, oXt_ife, oXf_ife, oXt_sub, oXf_sub, oXt_slc, oXf_slc, oXt_rev, oXf_rev, oXt_tup, oXf_tup, oXt_lst, oXf_lst, oXt_call, oXf_call, oXt_prim, oXf_prim, oXt_isi, oXf_isi, oXt_comp, oXf_comp, oXt_app, oXf_app, oXt_ext, oXf_ext, oXt_pop, oXf_pop, oXf_var, oXt_var, oX_lend, eX_var, eX_non, eX_bl, eX_int, eX_str, eX_glb, eX_bin, eX_neg, eX_not, eX_cmp, eX_chain, eX_and, eX_or, eX_ife, eX_sub, eX_slc, eX_rev, eX_tup, eX_lst, eX_call, eX_prim, eX_isi, eX_comp, eX_app, eX_ext, eX_pop, eP_nil, eP_cons, eL_nil, eL_cons, eI_rng1, eI_rng2, eI_cons, eS_nil, eS_cons, eS_set, eS_unp, eS_sti, eS_ex, eS_ifs, eS_whl, eS_fors, eS_brk, eS_cnt, eS_pas, eS_retv, eS_ret_non, eS_ret_bl, eS_ret_int, eS_ret_str, eS_ret_glb, eS_ret_bin, eS_ret_neg, eS_ret_not, eS_ret_cmp, eS_ret_chain, eS_ret_and, eS_ret_or, eS_ret_ife, eS_ret_sub, eS_ret_slc, eS_ret_rev, eS_ret_tup, eS_ret_lst, eS_ret_call, eS_ret_prim, eS_ret_isi, eS_ret_comp, eS_ret_app, eS_ret_ext, eS_ret_pop, lpS_nil, lpS_cons, cmS_nil, cmS_cons, rdO, rdS, rdAll, frz, valsOf, argsOf, slotsOf, putBack, subD, slD, prD, seqD, asg, asgs, bopD, copD, eqD, truS, List.mapIdx_cons, List.mapIdx_nil, List.getElem?_cons_zero, List.getElem?_cons_succ, List.set_cons_zero, List.set_cons_succ, List.length_cons, List.length_nil, List.cons_append, List.nil_append, List.replicate_zero, List.replicate_succ, List.append_nil, List.nodup_nil, List.nodup_cons, List.not_mem_nil, Nat.sub_self, Nat.add_one_sub_one, Nat.zero_lt_succ, if_true, if_false, eq_self_iff_true, reduceIte, reduceCtorEq, Nat.zero_le, slv, not_false_eq_true, and_self, and_true, true_and, List.singleton_append, Bool.not_true, Bool.not_false, List.foldl_nil, ite_true, ite_false, beq_self_eq_true, Nat.reduceAdd, Nat.reduceLT, Nat.reduceLeDiff, Nat.reduceSub, Nat.reduceEqDiff, Nat.reduceMul, Int.reduceAdd, Int.reduceLT, Int.reduceLE, Int.reduceNeg, Int.reduceEq, Int.reduceSub, decide_true, decide_false, decide_eq_true_eq, cond_true, cond_false, Int.reducePow, List.length_map, h', e]⟩
  · have h' : ¬ ((i : Int) < (ns.length : Int)) := by omega
    exact ⟨0, by simp only [runF, tagA, outsA, oXt_non, oXf_non, oXt_bl, oXf_bl, oXt_int, oXf_int, oXt_str, oXf_str, oXt_glb, oXf_glb, oXt_bin, oXf_bin, oXt_neg, oXf_neg, oXt_not, oXf_not, oXt_cmp, oXf_cmp, oXt_chain, oXf_chain, oXt_and, oXf_and, oXt_or, oXf_or, oXt_ife, oXf_ife, oXt_sub, oXf_sub, oXt_slc, oXf_slc, oXt_rev, oXf_rev, oXt_tup, oXf_tup, oXt_lst, oXf_lst, oXt_call, oXf_call, oXt_prim, oXf_prim, oXt_isi, oXf_isi, oXt_comp, oXf_comp, oXt_app, oXf_app, oXt_ext, oXf_ext, oXt_pop, oXf_pop, oXf_var, oXt_var, oX_lend, eX_var, eX_non, eX_bl, eX_int, eX_str, eX_glb, eX_bin, eX_neg, eX_not, eX_cmp, eX_chain, eX_and, eX_or, eX_ife, eX_sub, eX_slc, eX_rev, eX_tup, eX_lst, eX_call, eX_prim, eX_isi, eX_comp, eX_app, eX_ext, eX_pop, eP_nil, eP_cons, eL_nil, eL_cons, eI_rng1, eI_rng2, eI_cons, eS_nil, eS_cons, eS_set, eS_unp, eS_sti, eS_ex, eS_ifs, eS_whl, eS_fors, eS_brk, eS_cnt, eS_pas, eS_retv, eS_ret_non, eS_ret_bl, eS_ret_int, eS_ret_str, eS_ret_glb, eS_ret_bin, eS_ret_neg, eS_ret_not, eS_ret_cmp, eS_ret_chain, eS_ret_and, eS_ret_or, eS_ret_ife, eS_ret_sub, eS_ret_slc, eS_ret_rev, eS_ret_tup, eS_ret_lst, eS_ret_call, eS_ret_prim, eS_ret_isi, eS_ret_comp, eS_ret_app, eS_ret_ext, eS_ret_pop, lpS_nil, lpS_cons, cmS_nil, cmS_cons, rdO, rdS, rdAll, frz, valsOf, argsOf, slotsOf, putBack, subD, slD, prD, seqD, asg, asgs, bopD, copD, eqD, truS, List.mapIdx_cons, List.mapIdx_nil, List.getElem?_cons_zero, List.getElem?_cons_succ, List.set_cons_zero, List.set_cons_succ, List.length_cons, List.length_nil, List.cons_append, List.nil_append, List.replicate_zero, List.replicate_succ, List.append_nil, List.nodup_nil, List.nodup_cons, List.not_mem_nil, Nat.sub_self, Nat.add_one_sub_one, Nat.zero_lt_succ, if_true, if_false, eq_self_iff_true, reduceIte, reduceCtorEq, Nat.zero_le, slv, not_false_eq_true, and_self, and_true, true_and, List.singleton_append, Bool.not_true, Bool.not_false, List.foldl_nil, ite_true, ite_false, beq_self_eq_true, Nat.reduceAdd, Nat.reduceLT, Nat.reduceLeDiff, Nat.reduceSub, Nat.reduceEqDiff, Nat.reduceMul, Int.reduceAdd, Int.reduceLT, Int.reduceLE, Int.reduceNeg, Int.reduceEq, Int.reduceSub, decide_true, decide_false, decide_eq_true_eq, cond_true, cond_false, Int.reducePow, List.length_map, h']⟩
/-! draws -/
theorem md (x : Int) : x % 1000 = (((x % 1000).toNat : Nat) : Int) := by omega
theorem md_lt (x : Int) : (x % 1000).toNat < 1000 := by omega
theorem prI (i : Int) : prD .int [.int i] = some (.val (.int i)) := rfl
theorem draws_loop (C : Cfg) (cell A : Int) (dg : Bool) (hA : prD .abs [.int cell] = some (.val (.int A))) (many : Slo) : ∀ (ks : List Int) (acc : List PD) (rest : Int) (s5 s6 : Slo), acc.length + ks.length ≤ 100000 →
    ∃ (ds : List Nat) (rest' : Int) (t5 t6 : Slo), ds.length = ks.length ∧ (∀ d ∈ ds, d < 1000) ∧
      lpS C (.var 5) (.cons (.ifs (.and (.var 4) (.cmp .gt (.var 3) (.int 0))) (.cons (.ex (.app 2 (.bin .mod (.prim .int (.cons (.var 3) .nil)) (.int 1000)))) (.cons (.set 3 false (.bin .div (.var 3) (.int 1000))) .nil)) (.cons (.set 6 false (.bin .mod (.prim .int (.cons (.bin .add (.bin .add (.prim .abs (.cons (.var 0) .nil)) (.bin .mul (.int 7919) (.var 5))) (.int 13)) .nil)) (.int 2147483647))) (.cons (.set 6 false (.bin .mod (.prim .int (.cons (.bin .mul (.var 6) (.bin .add (.var 6) (.int 48271))) .nil)) (.int 2147483629))) (.cons (.set 6 false (.bin .mod (.prim .int (.cons (.bin .add (.bin .mul (.var 6) (.bin .add (.var 6) (.int 69621))) (.bin .mul (.int 31) (.var 5))) .nil)) (.int 2147483647))) (.cons (.ex (.app 2 (.bin .mod (.prim .int (.cons (.bin .div (.var 6) (.int 9)) .nil)) (.int 1000)))) .nil))))) .nil) (ks.map PyData.int) [.val (.int cell), many, .own none acc, .val (.int rest), .val (.bool dg), s5, s6] = some (.nx [.val (.int cell), many, .own none (acc ++ ds.map iN), .val (.int rest'), .val (.bool dg), t5, t6])
  | [], acc, rest, s5, s6, _ => ⟨[], rest, s5, s6, rfl, (fun d h => by cases h), by simp only [List.map_nil, lpS_nil, List.append_nil]⟩
  | k :: ks, acc, rest, s5, s6, hl => by
    simp only [List.length_cons] at hl
    have l' : acc.length < 16777216 := by omega
    by_cases c : dg = true ∧ 0 < rest
    · obtain ⟨ds, r', t5, t6, h1, h2, e⟩ := draws_loop C cell A dg hA many ks (acc ++ [.int (rest % 1000)]) (rest / 1000) (.val (.int k)) s6 (by simp only [List.length_append, List.length_cons, List.length_nil]; omega)
      refine ⟨(rest % 1000).toNat :: ds, r', t5, t6, by simp [h1], fun d hd => ?_, ?_⟩
      · rcases List.mem_cons.mp hd with rfl | hd
        · exact md_lt rest
        · exact h2 d hd
      · obtain ⟨c1, c2⟩ := c
        subst c1
        rw [List.append_assoc] at e
        simp only [List.map_cons, runF, tagA, outsA, oXt_non, oXf_non, oXt_bl, oXf_bl, oXt_int, oXf_int, oXt_str, oXf_str, oXt_glb, oXf_glb, oXt_bin, oXf_bin, oXt_neg, oXf_neg, oXt_not, oXf_not, oXt_cmp, oXf_cmp, oXt_chain, oXf_chain, oXt_and, oXf_and, oXt_or, oXf_or, oXt_ife, oXf_ife, oXt_sub, oXf_sub, oXt_slc, oXf_slc, oXt_rev, oXf_rev, oXt_tup, oXf_tup, oXt_lst, oXf_lst, oXt_call, oXf_call, oXt_prim, oXf_prim, oXt_isi, oXf_isi, oXt_comp, oXf_comp, oXt_app, oXf_app, oXt_ext, oXf_ext, oXt_pop, oXf_pop, oXf_var, oXt_var, oX_lend, eX_var, eX_non, eX_bl, eX_int, eX_str, eX_glb, eX_bin, eX_neg, eX_not, eX_cmp, eX_chain, eX_and, eX_or, eX_ife, eX_sub, eX_slc, eX_rev, eX_tup, eX_lst, eX_call, eX_prim, eX_isi, eX_comp, eX_app, eX_ext, eX_pop, eP_nil, eP_cons, eL_nil, eL_cons, eI_rng1, eI_rng2, eI_cons, eS_nil, eS_cons, eS_set, eS_unp, eS_sti, eS_ex, eS_ifs, eS_whl, eS_fors, eS_brk, eS_cnt, eS_pas, eS_retv, eS_ret_non, eS_ret_bl, eS_ret_int, eS_ret_str, eS_ret_glb, eS_ret_bin, eS_ret_neg, eS_ret_not, eS_ret_cmp, eS_ret_chain, eS_ret_and, eS_ret_or, eS_ret_ife, eS_ret_sub, eS_ret_slc, eS_ret_rev, eS_ret_tup, eS_ret_lst, eS_ret_call, eS_ret_prim, eS_ret_isi, eS_ret_comp, eS_ret_app, eS_ret_ext, eS_ret_pop, lpS_nil, lpS_cons, cmS_nil, cmS_cons, rdO, rdS, rdAll, frz, valsOf, argsOf, slotsOf, putBack, subD, slD, seqD, asg, asgs, bopD, copD, eqD, truS, List.mapIdx_cons, List.mapIdx_nil, List.getElem?_cons_zero, List.getElem?_cons_succ, List.set_cons_zero, List.set_cons_succ, List.length_cons, List.length_nil, List.cons_append, List.nil_append, List.replicate_zero, List.replicate_succ, List.append_nil, List.nodup_nil, List.nodup_cons, List.not_mem_nil, Nat.sub_self, Nat.add_one_sub_one, Nat.zero_lt_succ, if_true, if_false, eq_self_iff_true, reduceIte, reduceCtorEq, Nat.zero_le, slv, not_false_eq_true, and_self, and_true, true_and, List.singleton_append, Bool.not_true, Bool.not_false, List.foldl_nil, ite_true, ite_false, beq_self_eq_true, Nat.reduceAdd, Nat.reduceLT, Nat.reduceLeDiff, Nat.reduceSub, Nat.reduceEqDiff, Nat.reduceMul, Int.reduceAdd, Int.reduceLT, Int.reduceLE, Int.reduceNeg, Int.reduceEq, Int.reduceSub, decide_true, decide_false, decide_eq_true_eq, cond_true, cond_false, Int.reducePow, prI, c2, l', e, iN, ← md]
    · have go : evX C (.and (.var 4) (.cmp .gt (.var 3) (.int 0))) [.val (.int cell), many, .own none acc, .val (.int rest), .val (.bool dg), .val (.int k), s6] = some (.val (.bool false), [.val (.int cell), many, .own none acc, .val (.int rest), .val (.bool dg), .val (.int k), s6]) := by
        cases dg with
        | false => simp only [runF, tagA, outsA, oXt_non, oXf_non, oXt_bl, oXf_bl, oXt_int, oXf_int, oXt_str, oXf_str, oXt_glb, oXf_glb, oXt_bin, oXf_bin, oXt_neg, oXf_neg, oXt_not, oXf_not, oXt_cmp, oXf_cmp, oXt_chain, oXf_chain, oXt_and, oXf_and, oXt_or, oXf_or, oXt_ife, oXf_ife, oXt_sub, oXf_sub, oXt_slc, oXf_slc, oXt_rev, oXf_rev, oXt_tup, oXf_tup, oXt_lst, oXf_lst, oXt_call, oXf_call, oXt_prim, oXf_prim, oXt_isi, oXf_isi, oXt_comp, oXf_comp, oXt_app, oXf_app, oXt_ext, oXf_ext, oXt_pop, oXf_pop, oXf_var, oXt_var, oX_lend, eX_var, eX_non, eX_bl, eX_int, eX_str, eX_glb, eX_bin, eX_neg, eX_not, eX_cmp, eX_chain, eX_and, eX_or, eX_ife, eX_sub, eX_slc, eX_rev, eX_tup, eX_lst, eX_call, eX_prim, eX_isi, eX_comp, eX_app, eX_ext, eX_pop, eP_nil, eP_cons, eL_nil, eL_cons, eI_rng1, eI_rng2, eI_cons, eS_nil, eS_cons, eS_set, eS_unp, eS_sti, eS_ex, eS_ifs, eS_whl, eS_fors, eS_brk, eS_cnt, eS_pas, eS_retv, eS_ret_non, eS_ret_bl, eS_ret_int, eS_ret_str, eS_ret_glb, eS_ret_bin, eS_ret_neg, eS_ret_not, eS_ret_cmp, eS_ret_chain, eS_ret_and, eS_ret_or, eS_ret_ife, eS_ret_sub, eS_ret_slc, eS_ret_rev, eS_ret_tup, eS_ret_lst, eS_ret_call, eS_ret_prim, eS_ret_isi, eS_ret_comp, eS_ret_app, eS_ret_ext, eS_ret_pop, lpS_nil, lpS_cons, cmS_nil, cmS_cons, rdO, rdS, rdAll, frz, valsOf, argsOf, slotsOf, putBack, subD, slD, prD, seqD, asg, asgs, bopD, copD, eqD, truS, List.mapIdx_cons, List.mapIdx_nil, List.getElem?_cons_zero, List.getElem?_cons_succ, List.set_cons_zero, List.set_cons_succ, List.length_cons, List.length_nil, List.cons_append, List.nil_append, List.replicate_zero, List.replicate_succ, List.append_nil, List.nodup_nil, List.nodup_cons, List.not_mem_nil, Nat.sub_self, Nat.add_one_sub_one, Nat.zero_lt_succ, if_true, if_false, eq_self_iff_true, reduceIte, reduceCtorEq, Nat.zero_le, slv, not_false_eq_true, and_self, and_true, true_and, List.singleton_append, Bool.not_true, Bool.not_false, List.foldl_nil, ite_true, ite_false, beq_self_eq_true, Nat.reduceAdd, Nat.reduceLT, Nat.reduceLeDiff, Nat.reduceSub, Nat.reduceEqDiff, Nat.reduceMul, Int.reduceAdd, Int.reduceLT, Int.reduceLE, Int.reduceNeg, Int.reduceEq, Int.reduceSub, decide_true, decide_false, decide_eq_true_eq, cond_true, cond_false, Int.reducePow]
        | true =>
          have c2 : ¬ (0 < rest) := fun z => c ⟨rfl, z⟩
          simp only [runF, tagA, outsA, oXt_non, oXf_non, oXt_bl, oXf_bl, oXt_int, oXf_int, oXt_str, oXf_str, oXt_glb, oXf_glb, oXt_bin, oXf_bin, oXt_neg, oXf_neg, oXt_not, oXf_not, oXt_cmp, oXf_cmp, oXt_chain, oXf_chain, oXt_and, oXf_and, oXt_or, oXf_or, oXt_ife, oXf_ife, oXt_sub, oXf_sub, oXt_slc, oXf_slc, oXt_rev, oXf_rev, oXt_tup, oXf_tup, oXt_lst, oXf_lst, oXt_call, oXf_call, oXt_prim, oXf_prim, oXt_isi, oXf_isi, oXt_comp, oXf_comp, oXt_app, oXf_app, oXt_ext, oXf_ext, oXt_pop, oXf_pop, oXf_var, oXt_var, oX_lend, eX_var, eX_non, eX_bl, eX_int, eX_str, eX_glb, eX_bin, eX_neg, eX_not, eX_cmp, eX_chain, eX_and, eX_or, eX_ife, eX_sub, eX_slc, eX_rev, eX_tup, eX_lst, eX_call, eX_prim, eX_isi, eX_comp, eX_app, eX_ext, eX_pop, eP_nil, eP_cons, eL_nil, eL_cons, eI_rng1, eI_rng2, eI_cons, eS_nil, eS_cons, eS_set, eS_unp, eS_sti, eS_ex, eS_ifs, eS_whl, eS_fors, eS_brk, eS_cnt, eS_pas, eS_retv, eS_ret_non, eS_ret_bl, eS_ret_int, eS_ret_str, eS_ret_glb, eS_ret_bin, eS_ret_neg, eS_ret_not, eS_ret_cmp, eS_ret_chain, eS_ret_and, eS_ret_or, eS_ret_ife, eS_ret_sub, eS_ret_slc, eS_ret_rev, eS_ret_tup, eS_ret_lst, eS_ret_call, eS_ret_prim, eS_ret_isi, eS_ret_comp, eS_ret_app, eS_ret_ext, eS_ret_pop, lpS_nil, lpS_cons, cmS_nil, cmS_cons, rdO, rdS, rdAll, frz, valsOf, argsOf, slotsOf, putBack, subD, slD, prD, seqD, asg, asgs, bopD, copD, eqD, truS, List.mapIdx_cons, List.mapIdx_nil, List.getElem?_cons_zero, List.getElem?_cons_succ, List.set_cons_zero, List.set_cons_succ, List.length_cons, List.length_nil, List.cons_append, List.nil_append, List.replicate_zero, List.replicate_succ, List.append_nil, List.nodup_nil, List.nodup_cons, List.not_mem_nil, Nat.sub_self, Nat.add_one_sub_one, Nat.zero_lt_succ, if_true, if_false, eq_self_iff_true, reduceIte, reduceCtorEq, Nat.zero_le, slv, not_false_eq_true, and_self, and_true, true_and, List.singleton_append, Bool.not_true, Bool.not_false, List.foldl_nil, ite_true, ite_false, beq_self_eq_true, Nat.reduceAdd, Nat.reduceLT, Nat.reduceLeDiff, Nat.reduceSub, Nat.reduceEqDiff, Nat.reduceMul, Int.reduceAdd, Int.reduceLT, Int.reduceLE, Int.reduceNeg, Int.reduceEq, Int.reduceSub, decide_true, decide_false, decide_eq_true_eq, cond_true, cond_false, Int.reducePow, c2]
      have b1 := Int.emod_nonneg (A + 7919 * k + 13) (show (2147483647 : Int) ≠ 0 by decide)
      have b2 := Int.emod_lt_of_pos (A + 7919 * k + 13) (show (0 : Int) < 2147483647 by decide)
      generalize hm1 : (A + 7919 * k + 13) % 2147483647 = m1 at b1 b2
      have b3 := Int.emod_nonneg (m1 * (m1 + 48271)) (show (2147483629 : Int) ≠ 0 by decide)
      have b4 := Int.emod_lt_of_pos (m1 * (m1 + 48271)) (show (0 : Int) < 2147483629 by decide)
      generalize hm2 : (m1 * (m1 + 48271)) % 2147483629 = m2 at b3 b4
      generalize hm3 : (m2 * (m2 + 69621) + 31 * k) % 2147483647 = m3
      have q1 : (-18446744073709551616 : Int) < m1 := by omega
      have q2 : m1 < (18446744073709551616 : Int) := by omega
      have q3 : (-18446744073709551616 : Int) < m2 := by omega
      have q4 : m2 < (18446744073709551616 : Int) := by omega
      obtain ⟨ds, r', t5, t6, h1, h2, e⟩ := draws_loop C cell A dg hA many ks (acc ++ [.int (m3 / 9 % 1000)]) rest (.val (.int k)) (.val (.int m3)) (by simp only [List.length_append, List.length_cons, List.length_nil]; omega)
      refine ⟨(m3 / 9 % 1000).toNat :: ds, r', t5, t6, by simp [h1], fun d hd => ?_, ?_⟩
      · rcases List.mem_cons.mp hd with rfl | hd
        · exact md_lt _
        · exact h2 d hd
      · rw [List.append_assoc] at e
        simp only [List.map_cons, runF, tagA, outsA, oXt_non, oXf_non, oXt_bl, oXf_bl, oXt_int, oXf_int, oXt_str, oXf_str, oXt_glb, oXf_glb, oXt_bin, oXf_bin, oXt_neg, oXf_neg, oXt_not, oXf_not, oXt_cmp, oXf_cmp, oXt_chain, oXf_chain, oXt_and, oXf_and, oXt_or, oXf_or, oXt_ife, oXf_ife, oXt_sub, oXf_sub, oXt_slc, oXf_slc, oXt_rev, oXf_rev, oXt_tup, oXf_tup, oXt_lst, oXf_lst, oXt_call, oXf_call, oXt_prim, oXf_prim, oXt_isi, oXf_isi, oXt_comp, oXf_comp, oXt_app, oXf_app, oXt_ext, oXf_ext, oXt_pop, oXf_pop, oXf_var, oXt_var, oX_lend, eX_var, eX_non, eX_bl, eX_int, eX_str, eX_glb, eX_bin, eX_neg, eX_not, eX_cmp, eX_chain, eX_and, eX_or, eX_ife, eX_sub, eX_slc, eX_rev, eX_tup, eX_lst, eX_call, eX_prim, eX_isi, eX_comp, eX_app, eX_ext, eX_pop, eP_nil, eP_cons, eL_nil, eL_cons, eI_rng1, eI_rng2, eI_cons, eS_nil, eS_cons, eS_set, eS_unp, eS_sti, eS_ex, eS_ifs, eS_whl, eS_fors, eS_brk, eS_cnt, eS_pas, eS_retv, eS_ret_non, eS_ret_bl, eS_ret_int, eS_ret_str, eS_ret_glb, eS_ret_bin, eS_ret_neg, eS_ret_not, eS_ret_cmp, eS_ret_chain, eS_ret_and, eS_ret_or, eS_ret_ife, eS_ret_sub, eS_ret_slc, eS_ret_rev, eS_ret_tup, eS_ret_lst, eS_ret_call, eS_ret_prim, eS_ret_isi, eS_ret_comp, eS_ret_app, eS_ret_ext, eS_ret_pop, lpS_nil, lpS_cons, cmS_nil, cmS_cons, rdO, rdS, rdAll, frz, valsOf, argsOf, slotsOf, putBack, subD, slD, seqD, asg, asgs, bopD, copD, eqD, truS, List.mapIdx_cons, List.mapIdx_nil, List.getElem?_cons_zero, List.getElem?_cons_succ, List.set_cons_zero, List.set_cons_succ, List.length_cons, List.length_nil, List.cons_append, List.nil_append, List.replicate_zero, List.replicate_succ, List.append_nil, List.nodup_nil, List.nodup_cons, List.not_mem_nil, Nat.sub_self, Nat.add_one_sub_one, Nat.zero_lt_succ, if_true, if_false, eq_self_iff_true, reduceIte, reduceCtorEq, Nat.zero_le, slv, not_false_eq_true, and_self, and_true, true_and, List.singleton_append, Bool.not_true, Bool.not_false, List.foldl_nil, ite_true, ite_false, beq_self_eq_true, Nat.reduceAdd, Nat.reduceLT, Nat.reduceLeDiff, Nat.reduceSub, Nat.reduceEqDiff, Nat.reduceMul, Int.reduceAdd, Int.reduceLT, Int.reduceLE, Int.reduceNeg, Int.reduceEq, Int.reduceSub, decide_true, decide_false, decide_eq_true_eq, cond_true, cond_false, Int.reducePow, prI, go, hA, hm1, q1, q2, hm2, q3, q4, hm3, l', e, iN, ← md, true_or]
theorem draws_ok {K : Nat} (hK : 1 ≤ K) (cell : Int) (many : Nat) (hm : many ≤ 1000) : ∃ ds : List Nat, ds.length = many ∧ (∀ d ∈ ds, d < 1000) ∧ fnK rs gl0 K 12 [.val (.int cell), .val (.int (many : Int))] = some (.own none (ds.map iN), [.un, .un]) := by
  obtain ⟨k, rfl⟩ : ∃ k, K = k + 1 := ⟨K - 1, by omega⟩
  obtain ⟨A, hA⟩ : ∃ A, prD .abs [.int cell] = some (.val (.int A)) := ⟨_, rfl⟩
  have hp : bopD .pow (.int 10) (.int 18) = some (.val (.int 1000000000000000000)) := by
    simp only [bopD]
    rw [if_pos (by decide +kernel)]
    rfl
  obtain ⟨dg, hdg⟩ : ∃ dg, copD .ge (.int A) (.int 1000000000000000000) = some dg := ⟨_, rfl⟩
  have hr : evI ⟨fnK rs gl0 k, gl0⟩ false (.rng1 (.var 1)) [.val (.int cell), .val (.int (many : Int)), .own none [], .val (.int A), .val (.bool dg), .un, .un] = some ((List.range many).map (fun (k : Nat) => PyData.int (k : Int)), [.val (.int cell), .val (.int (many : Int)), .own none [], .val (.int A), .val (.bool dg), .un, .un]) :=
    eI_rngN (by simp only [runF, tagA, outsA, oXt_non, oXf_non, oXt_bl, oXf_bl, oXt_int, oXf_int, oXt_str, oXf_str, oXt_glb, oXf_glb, oXt_bin, oXf_bin, oXt_neg, oXf_neg, oXt_not, oXf_not, oXt_cmp, oXf_cmp, oXt_chain, oXf_chain, oXt_and, oXf_and, oXt_or, oXf_or, oXt_ife, oXf_ife, oXt_sub, oXf_sub, oXt_slc, oXf_slc, oXt_rev, oXf_rev, oXt_tup, oXf_tup, oXt_lst, oXf_lst, oXt_call, oXf_call, oXt_prim, oXf_prim, oXt_isi, oXf_isi, oXt_comp, oXf_comp, oXt_app, oXf_app, oXt_ext, oXf_ext, oXt_pop, oXf_pop, oXf_var, oXt_var, oX_lend, eX_var, eX_non, eX_bl, eX_int, eX_str, eX_glb, eX_bin, eX_neg, eX_not, eX_cmp, eX_chain, eX_and, eX_or, eX_ife, eX_sub, eX_slc, eX_rev, eX_tup, eX_lst, eX_call, eX_prim, eX_isi, eX_comp, eX_app, eX_ext, eX_pop, eP_nil, eP_cons, eL_nil, eL_cons, eI_rng1, eI_rng2, eI_cons, eS_nil, eS_cons, eS_set, eS_unp, eS_sti, eS_ex, eS_ifs, eS_whl, eS_fors, eS_brk, eS_cnt, eS_pas, eS_retv, eS_ret_non, eS_ret_bl, eS_ret_int, eS_ret_str, eS_ret_glb, eS_ret_bin, eS_ret_neg, eS_ret_not, eS_ret_cmp, eS_ret_chain, eS_ret_and, eS_ret_or, eS_ret_ife, eS_ret_sub, eS_ret_slc, eS_ret_rev, eS_ret_tup, eS_ret_lst, eS_ret_call, eS_ret_prim, eS_ret_isi, eS_ret_comp, eS_ret_app, eS_ret_ext, eS_ret_pop, lpS_nil, lpS_cons, cmS_nil, cmS_cons, rdO, rdS, rdAll, frz, valsOf, argsOf, slotsOf, putBack, subD, slD, prD, seqD, asg, asgs, bopD, copD, eqD, truS, List.mapIdx_cons, List.mapIdx_nil, List.getElem?_cons_zero, List.getElem?_cons_succ, List.set_cons_zero, List.set_cons_succ, List.length_cons, List.length_nil, List.cons_append, List.nil_append, List.replicate_zero, List.replicate_succ, List.append_nil, List.nodup_nil, List.nodup_cons, List.not_mem_nil, Nat.sub_self, Nat.add_one_sub_one, Nat.zero_lt_succ, if_true, if_false, eq_self_iff_true, reduceIte, reduceCtorEq, Nat.zero_le, slv, not_false_eq_true, and_self, and_true, true_and, List.singleton_append, Bool.not_true, Bool.not_false, List.foldl_nil, ite_true, ite_false, beq_self_eq_true, Nat.reduceAdd, Nat.reduceLT, Nat.reduceLeDiff, Nat.reduceSub, Nat.reduceEqDiff, Nat.reduceMul, Int.reduceAdd, Int.reduceLT, Int.reduceLE, Int.reduceNeg, Int.reduceEq, Int.reduceSub, decide_true, decide_false, decide_eq_true_eq, cond_true, cond_false, Int.reducePow]) (by omega)
  obtain ⟨ds, r', t5, t6, h1, h2, e⟩ := draws_loop ⟨fnK rs gl0 k, gl0⟩ cell A dg hA (.val (.int (many : Int))) ((List.range many).map fun (k : Nat) => (k : Int)) [] A .un .un (by simp only [List.length_nil, List.length_map, List.length_range]; omega)
  rw [List.map_map] at e
  have e' : (PyData.int ∘ fun (k : Nat) => (k : Int)) = fun (k : Nat) => PyData.int (k : Int) := rfl
  rw [e', List.nil_append] at e
  refine ⟨ds, by simpa using h1, h2, ?_⟩
  rw [run12]
  simp only [runF, tagA, outsA, oXt_non, oXf_non, oXt_bl, oXf_bl, oXt_int, oXf_int, oXt_str, oXf_str, oXt_glb, oXf_glb, oXt_bin, oXf_bin, oXt_neg, oXf_neg, oXt_not, oXf_not, oXt_cmp, oXf_cmp, oXt_chain, oXf_chain, oXt_and, oXf_and, oXt_or, oXf_or, oXt_ife, oXf_ife, oXt_sub, oXf_sub, oXt_slc, oXf_slc, oXt_rev, oXf_rev, oXt_tup, oXf_tup, oXt_lst, oXf_lst, oXt_call, oXf_call, oXt_prim, oXf_prim, oXt_isi, oXf_isi, oXt_comp, oXf_comp, oXt_app, oXf_app, oXt_ext, oXf_ext, oXt_pop, oXf_pop, oXf_var, oXt_var, oX_lend, eX_var, eX_non, eX_bl, eX_int, eX_str, eX_glb, eX_bin, eX_neg, eX_not, eX_cmp, eX_chain, eX_and, eX_or, eX_ife, eX_sub, eX_slc, eX_rev, eX_tup, eX_lst, eX_call, eX_prim, eX_isi, eX_comp, eX_app, eX_ext, eX_pop, eP_nil, eP_cons, eL_nil, eL_cons, eI_rng2, eI_cons, eS_nil, eS_cons, eS_set, eS_unp, eS_sti, eS_ex, eS_ifs, eS_whl, eS_fors, eS_brk, eS_cnt, eS_pas, eS_retv, eS_ret_non, eS_ret_bl, eS_ret_int, eS_ret_str, eS_ret_glb, eS_ret_bin, eS_ret_neg, eS_ret_not, eS_ret_cmp, eS_ret_chain, eS_ret_and, eS_ret_or, eS_ret_ife, eS_ret_sub, eS_ret_slc, eS_ret_rev, eS_ret_tup, eS_ret_lst, eS_ret_call, eS_ret_prim, eS_ret_isi, eS_ret_comp, eS_ret_app, eS_ret_ext, eS_ret_pop, lpS_nil, lpS_cons, cmS_nil, cmS_cons, rdO, rdS, rdAll, frz, valsOf, argsOf, slotsOf, putBack, subD, slD, seqD, asg, asgs, eqD, truS, List.mapIdx_cons, List.mapIdx_nil, List.getElem?_cons_zero, List.getElem?_cons_succ, List.set_cons_zero, List.set_cons_succ, List.length_cons, List.length_nil, List.cons_append, List.nil_append, List.replicate_zero, List.replicate_succ, List.append_nil, List.nodup_nil, List.nodup_cons, List.not_mem_nil, Nat.sub_self, Nat.add_one_sub_one, Nat.zero_lt_succ, if_true, if_false, eq_self_iff_true, reduceIte, reduceCtorEq, Nat.zero_le, slv, not_false_eq_true, and_self, and_true, true_and, List.singleton_append, Bool.not_true, Bool.not_false, List.foldl_nil, ite_true, ite_false, beq_self_eq_true, Nat.reduceAdd, Nat.reduceLT, Nat.reduceLeDiff, Nat.reduceSub, Nat.reduceEqDiff, Nat.reduceMul, Int.reduceAdd, Int.reduceLT, Int.reduceLE, Int.reduceNeg, Int.reduceEq, Int.reduceSub, decide_true, decide_false, decide_eq_true_eq, cond_true, cond_false, Int.reducePow, hA, hp, hdg, hr, e]
/-! pieces -/
def pcl (b : Blk) : List PD := [.tuple (enc b), .list (num b), .list ((tab b 0 none).map oN), .bool (hasI b), .int (dep b)]
theorem pc_eq (b : Blk) : pc b = .list (pcl b) := rfl
theorem none_ok {K : Nat} (hK : 1 ≤ K) : fnK rs gl0 K 13 [] = some (.own none (pcl .nil), []) := by
  obtain ⟨k, rfl⟩ : ∃ k, K = k + 1 := ⟨K - 1, by omega⟩
  rw [run13]
  simp only [runF, tagA, outsA, oXt_non, oXf_non, oXt_bl, oXf_bl, oXt_int, oXf_int, oXt_str, oXf_str, oXt_glb, oXf_glb, oXt_bin, oXf_bin, oXt_neg, oXf_neg, oXt_not, oXf_not, oXt_cmp, oXf_cmp, oXt_chain, oXf_chain, oXt_and, oXf_and, oXt_or, oXf_or, oXt_ife, oXf_ife, oXt_sub, oXf_sub, oXt_slc, oXf_slc, oXt_rev, oXf_rev, oXt_tup, oXf_tup, oXt_lst, oXf_lst, oXt_call, oXf_call, oXt_prim, oXf_prim, oXt_isi, oXf_isi, oXt_comp, oXf_comp, oXt_app, oXf_app, oXt_ext, oXf_ext, oXt_pop, oXf_pop, oXf_var, oXt_var, oX_lend, eX_var, eX_non, eX_bl, eX_int, eX_str, eX_glb, eX_bin, eX_neg, eX_not, eX_cmp, eX_chain, eX_and, eX_or, eX_ife, eX_sub, eX_slc, eX_rev, eX_tup, eX_lst, eX_call, eX_prim, eX_isi, eX_comp, eX_app, eX_ext, eX_pop, eP_nil, eP_cons, eL_nil, eL_cons, eI_rng1, eI_rng2, eI_cons, eS_nil, eS_cons, eS_set, eS_unp, eS_sti, eS_ex, eS_ifs, eS_whl, eS_fors, eS_brk, eS_cnt, eS_pas, eS_retv, eS_ret_non, eS_ret_bl, eS_ret_int, eS_ret_str, eS_ret_glb, eS_ret_bin, eS_ret_neg, eS_ret_not, eS_ret_cmp, eS_ret_chain, eS_ret_and, eS_ret_or, eS_ret_ife, eS_ret_sub, eS_ret_slc, eS_ret_rev, eS_ret_tup, eS_ret_lst, eS_ret_call, eS_ret_prim, eS_ret_isi, eS_ret_comp, eS_ret_app, eS_ret_ext, eS_ret_pop, lpS_nil, lpS_cons, cmS_nil, cmS_cons, rdO, rdS, rdAll, frz, valsOf, argsOf, slotsOf, putBack, subD, slD, prD, seqD, asg, asgs, bopD, copD, eqD, truS, List.mapIdx_cons, List.mapIdx_nil, List.getElem?_cons_zero, List.getElem?_cons_succ, List.set_cons_zero, List.set_cons_succ, List.length_cons, List.length_nil, List.cons_append, List.nil_append, List.replicate_zero, List.replicate_succ, List.append_nil, List.nodup_nil, List.nodup_cons, List.not_mem_nil, Nat.sub_self, Nat.add_one_sub_one, Nat.zero_lt_succ, if_true, if_false, eq_self_iff_true, reduceIte, reduceCtorEq, Nat.zero_le, slv, not_false_eq_true, and_self, and_true, true_and, List.singleton_append, Bool.not_true, Bool.not_false, List.foldl_nil, ite_true, ite_false, beq_self_eq_true, Nat.reduceAdd, Nat.reduceLT, Nat.reduceLeDiff, Nat.reduceSub, Nat.reduceEqDiff, Nat.reduceMul, Int.reduceAdd, Int.reduceLT, Int.reduceLE, Int.reduceNeg, Int.reduceEq, Int.reduceSub, decide_true, decide_false, decide_eq_true_eq, cond_true, cond_false, Int.reducePow]
  rfl
theorem lone_simp {K : Nat} (hK : 1 ≤ K) {h : Str} {xs : List PD} (ok : okS h xs = true) : fnK rs gl0 K 14 [.val (.tuple (.str h :: xs))] = some (.own none (pcl (.simp h xs .nil)), [.un]) := by
  obtain ⟨k, rfl⟩ : ∃ k, K = k + 1 := ⟨K - 1, by omega⟩
  have i := hd_inner (okS_hd ok)
  have s1 : SeqAt.shaped (.tuple (.str h :: xs)) = true := by
    simp only [okS, Bool.and_eq_true, decide_eq_true_eq] at ok
    simp only [SeqAt.shaped, ok.1.1.1.2, Bool.true_and]
    exact decide_eq_true (Nat.le_trans ok.1.1.2 (by decide))
  have s2 : SeqAt.shaped (.tuple [.str "inner"]) = true := by decide +kernel
  have e : PyData.eqv (.tuple (.str h :: xs)) (.tuple [.str "inner"]) = false := by
    simp only [PyData.eqv, PyData.eqvAll, i, Bool.false_and]
  rw [run14]
  simp only [runF, tagA, outsA, oXt_non, oXf_non, oXt_bl, oXf_bl, oXt_int, oXf_int, oXt_str, oXf_str, oXt_glb, oXf_glb, oXt_bin, oXf_bin, oXt_neg, oXf_neg, oXt_not, oXf_not, oXt_cmp, oXf_cmp, oXt_chain, oXf_chain, oXt_and, oXf_and, oXt_or, oXf_or, oXt_ife, oXf_ife, oXt_sub, oXf_sub, oXt_slc, oXf_slc, oXt_rev, oXf_rev, oXt_tup, oXf_tup, oXt_lst, oXf_lst, oXt_call, oXf_call, oXt_prim, oXf_prim, oXt_isi, oXf_isi, oXt_comp, oXf_comp, oXt_app, oXf_app, oXt_ext, oXf_ext, oXt_pop, oXf_pop, oXf_var, oXt_var, oX_lend, eX_var, eX_non, eX_bl, eX_int, eX_str, eX_glb, eX_bin, eX_neg, eX_not, eX_cmp, eX_chain, eX_and, eX_or, eX_ife, eX_sub, eX_slc, eX_rev, eX_tup, eX_lst, eX_call, eX_prim, eX_isi, eX_comp, eX_app, eX_ext, eX_pop, eP_nil, eP_cons, eL_nil, eL_cons, eI_rng1, eI_rng2, eI_cons, eS_nil, eS_cons, eS_set, eS_unp, eS_sti, eS_ex, eS_ifs, eS_whl, eS_fors, eS_brk, eS_cnt, eS_pas, eS_retv, eS_ret_non, eS_ret_bl, eS_ret_int, eS_ret_str, eS_ret_glb, eS_ret_bin, eS_ret_neg, eS_ret_not, eS_ret_cmp, eS_ret_chain, eS_ret_and, eS_ret_or, eS_ret_ife, eS_ret_sub, eS_ret_slc, eS_ret_rev, eS_ret_tup, eS_ret_lst, eS_ret_call, eS_ret_prim, eS_ret_isi, eS_ret_comp, eS_ret_app, eS_ret_ext, eS_ret_pop, lpS_nil, lpS_cons, cmS_nil, cmS_cons, rdO, rdS, rdAll, frz, valsOf, argsOf, slotsOf, putBack, subD, slD, prD, seqD, asg, asgs, bopD, copD, eqD, truS, List.mapIdx_cons, List.mapIdx_nil, List.getElem?_cons_zero, List.getElem?_cons_succ, List.set_cons_zero, List.set_cons_succ, List.length_cons, List.length_nil, List.cons_append, List.nil_append, List.replicate_zero, List.replicate_succ, List.append_nil, List.nodup_nil, List.nodup_cons, List.not_mem_nil, Nat.sub_self, Nat.add_one_sub_one, Nat.zero_lt_succ, if_true, if_false, eq_self_iff_true, reduceIte, reduceCtorEq, Nat.zero_le, slv, not_false_eq_true, and_self, and_true, true_and, List.singleton_append, Bool.not_true, Bool.not_false, List.foldl_nil, ite_true, ite_false, beq_self_eq_true, Nat.reduceAdd, Nat.reduceLT, Nat.reduceLeDiff, Nat.reduceSub, Nat.reduceEqDiff, Nat.reduceMul, Int.reduceAdd, Int.reduceLT, Int.reduceLE, Int.reduceNeg, Int.reduceEq, Int.reduceSub, decide_true, decide_false, decide_eq_true_eq, cond_true, cond_false, Int.reducePow, s1, s2, e]
  rfl
theorem lone_inn {K : Nat} (hK : 1 ≤ K) : fnK rs gl0 K 14 [.val inn] = some (.own none (pcl (.inner .nil)), [.un]) := by
  obtain ⟨k, rfl⟩ : ∃ k, K = k + 1 := ⟨K - 1, by omega⟩
  have s2 : SeqAt.shaped (.tuple [.str "inner"]) = true := by decide +kernel
  have e : PyData.eqv (.tuple [.str "inner"]) (.tuple [.str "inner"]) = true := by decide +kernel
  rw [run14]
  simp only [inn, runF, tagA, outsA, oXt_non, oXf_non, oXt_bl, oXf_bl, oXt_int, oXf_int, oXt_str, oXf_str, oXt_glb, oXf_glb, oXt_bin, oXf_bin, oXt_neg, oXf_neg, oXt_not, oXf_not, oXt_cmp, oXf_cmp, oXt_chain, oXf_chain, oXt_and, oXf_and, oXt_or, oXf_or, oXt_ife, oXf_ife, oXt_sub, oXf_sub, oXt_slc, oXf_slc, oXt_rev, oXf_rev, oXt_tup, oXf_tup, oXt_lst, oXf_lst, oXt_call, oXf_call, oXt_prim, oXf_prim, oXt_isi, oXf_isi, oXt_comp, oXf_comp, oXt_app, oXf_app, oXt_ext, oXf_ext, oXt_pop, oXf_pop, oXf_var, oXt_var, oX_lend, eX_var, eX_non, eX_bl, eX_int, eX_str, eX_glb, eX_bin, eX_neg, eX_not, eX_cmp, eX_chain, eX_and, eX_or, eX_ife, eX_sub, eX_slc, eX_rev, eX_tup, eX_lst, eX_call, eX_prim, eX_isi, eX_comp, eX_app, eX_ext, eX_pop, eP_nil, eP_cons, eL_nil, eL_cons, eI_rng1, eI_rng2, eI_cons, eS_nil, eS_cons, eS_set, eS_unp, eS_sti, eS_ex, eS_ifs, eS_whl, eS_fors, eS_brk, eS_cnt, eS_pas, eS_retv, eS_ret_non, eS_ret_bl, eS_ret_int, eS_ret_str, eS_ret_glb, eS_ret_bin, eS_ret_neg, eS_ret_not, eS_ret_cmp, eS_ret_chain, eS_ret_and, eS_ret_or, eS_ret_ife, eS_ret_sub, eS_ret_slc, eS_ret_rev, eS_ret_tup, eS_ret_lst, eS_ret_call, eS_ret_prim, eS_ret_isi, eS_ret_comp, eS_ret_app, eS_ret_ext, eS_ret_pop, lpS_nil, lpS_cons, cmS_nil, cmS_cons, rdO, rdS, rdAll, frz, valsOf, argsOf, slotsOf, putBack, subD, slD, prD, seqD, asg, asgs, bopD, copD, eqD, truS, List.mapIdx_cons, List.mapIdx_nil, List.getElem?_cons_zero, List.getElem?_cons_succ, List.set_cons_zero, List.set_cons_succ, List.length_cons, List.length_nil, List.cons_append, List.nil_append, List.replicate_zero, List.replicate_succ, List.append_nil, List.nodup_nil, List.nodup_cons, List.not_mem_nil, Nat.sub_self, Nat.add_one_sub_one, Nat.zero_lt_succ, if_true, if_false, eq_self_iff_true, reduceIte, reduceCtorEq, Nat.zero_le, slv, not_false_eq_true, and_self, and_true, true_and, List.singleton_append, Bool.not_true, Bool.not_false, List.foldl_nil, ite_true, ite_false, beq_self_eq_true, Nat.reduceAdd, Nat.reduceLT, Nat.reduceLeDiff, Nat.reduceSub, Nat.reduceEqDiff, Nat.reduceMul, Int.reduceAdd, Int.reduceLT, Int.reduceLE, Int.reduceNeg, Int.reduceEq, Int.reduceSub, decide_true, decide_false, decide_eq_true_eq, cond_true, cond_false, Int.reducePow, s2, e]
  rfl
theorem shift_loop (C : Cfg) (z : Slo) (m : Nat) (last : Option Nat) : ∀ (T : Tb) (acc : List PD) (s : Slo), acc.length + T.length ≤ 100000 →
    ∃ s', lpS C (.var 4) (.cons (.ifs (.cmp .is (.var 4) (.non)) (.cons (.ex (.app 3 (.var 2))) .nil) (.cons (.ex (.app 3 (.bin .add (.var 4) (.var 1)))) .nil)) .nil) (T.map oN) [z, .val (.int (m : Int)), .val (oN last), .own none acc, s] = some (.nx [z, .val (.int (m : Int)), .val (oN last), .own none (acc ++ (T.map (shO m last)).map oN), s'])
  | [], acc, s, _ => ⟨s, by simp only [List.map_nil, lpS_nil, List.append_nil]⟩
  | none :: T, acc, s, h => by
    simp only [List.length_cons] at h
    have l' : acc.length < 16777216 := by omega
    obtain ⟨s', e⟩ := shift_loop C z m last T (acc ++ [oN last]) (.val .none) (by simp only [List.length_append, List.length_cons, List.length_nil]; omega)
    refine ⟨s', ?_⟩
    have q : oN none = .none := rfl
    have q2 : shO m last none = last := rfl
    simp only [List.map_cons, q2, q, runF, tagA, outsA, oXt_non, oXf_non, oXt_bl, oXf_bl, oXt_int, oXf_int, oXt_str, oXf_str, oXt_glb, oXf_glb, oXt_bin, oXf_bin, oXt_neg, oXf_neg, oXt_not, oXf_not, oXt_cmp, oXf_cmp, oXt_chain, oXf_chain, oXt_and, oXf_and, oXt_or, oXf_or, oXt_ife, oXf_ife, oXt_sub, oXf_sub, oXt_slc, oXf_slc, oXt_rev, oXf_rev, oXt_tup, oXf_tup, oXt_lst, oXf_lst, oXt_call, oXf_call, oXt_prim, oXf_prim, oXt_isi, oXf_isi, oXt_comp, oXf_comp, oXt_app, oXf_app, oXt_ext, oXf_ext, oXt_pop, oXf_pop, oXf_var, oXt_var, oX_lend, eX_var, eX_non, eX_bl, eX_int, eX_str, eX_glb, eX_bin, eX_neg, eX_not, eX_cmp, eX_chain, eX_and, eX_or, eX_ife, eX_sub, eX_slc, eX_rev, eX_tup, eX_lst, eX_call, eX_prim, eX_isi, eX_comp, eX_app, eX_ext, eX_pop, eP_nil, eP_cons, eL_nil, eL_cons, eI_rng1, eI_rng2, eI_cons, eS_nil, eS_cons, eS_set, eS_unp, eS_sti, eS_ex, eS_ifs, eS_whl, eS_fors, eS_brk, eS_cnt, eS_pas, eS_retv, eS_ret_non, eS_ret_bl, eS_ret_int, eS_ret_str, eS_ret_glb, eS_ret_bin, eS_ret_neg, eS_ret_not, eS_ret_cmp, eS_ret_chain, eS_ret_and, eS_ret_or, eS_ret_ife, eS_ret_sub, eS_ret_slc, eS_ret_rev, eS_ret_tup, eS_ret_lst, eS_ret_call, eS_ret_prim, eS_ret_isi, eS_ret_comp, eS_ret_app, eS_ret_ext, eS_ret_pop, lpS_nil, lpS_cons, cmS_nil, cmS_cons, rdO, rdS, rdAll, frz, valsOf, argsOf, slotsOf, putBack, subD, slD, prD, seqD, asg, asgs, bopD, copD, eqD, truS, List.mapIdx_cons, List.mapIdx_nil, List.getElem?_cons_zero, List.getElem?_cons_succ, List.set_cons_zero, List.set_cons_succ, List.length_cons, List.length_nil, List.cons_append, List.nil_append, List.replicate_zero, List.replicate_succ, List.append_nil, List.nodup_nil, List.nodup_cons, List.not_mem_nil, Nat.sub_self, Nat.add_one_sub_one, Nat.zero_lt_succ, if_true, if_false, eq_self_iff_true, reduceIte, reduceCtorEq, Nat.zero_le, slv, not_false_eq_true, and_self, and_true, true_and, List.singleton_append, Bool.not_true, Bool.not_false, List.foldl_nil, ite_true, ite_false, beq_self_eq_true, Nat.reduceAdd, Nat.reduceLT, Nat.reduceLeDiff, Nat.reduceSub, Nat.reduceEqDiff, Nat.reduceMul, Int.reduceAdd, Int.reduceLT, Int.reduceLE, Int.reduceNeg, Int.reduceEq, Int.reduceSub, decide_true, decide_false, decide_eq_true_eq, cond_true, cond_false, Int.reducePow, l']
    rw [e, List.append_assoc]
    rfl
  | some x :: T, acc, s, h => by
    simp only [List.length_cons] at h
    have l' : acc.length < 16777216 := by omega
    obtain ⟨s', e⟩ := shift_loop C z m last T (acc ++ [.int ((x : Int) + (m : Int))]) (.val (.int (x : Int))) (by simp only [List.length_append, List.length_cons, List.length_nil]; omega)
    refine ⟨s', ?_⟩
    have q : oN (some x) = .int (x : Int) := rfl
    have q2 : shO m last (some x) = some (x + m) := rfl
    have q3 : oN (some (x + m)) = .int ((x : Int) + (m : Int)) := rfl
    simp only [List.map_cons, q2, q3, q, runF, tagA, outsA, oXt_non, oXf_non, oXt_bl, oXf_bl, oXt_int, oXf_int, oXt_str, oXf_str, oXt_glb, oXf_glb, oXt_bin, oXf_bin, oXt_neg, oXf_neg, oXt_not, oXf_not, oXt_cmp, oXf_cmp, oXt_chain, oXf_chain, oXt_and, oXf_and, oXt_or, oXf_or, oXt_ife, oXf_ife, oXt_sub, oXf_sub, oXt_slc, oXf_slc, oXt_rev, oXf_rev, oXt_tup, oXf_tup, oXt_lst, oXf_lst, oXt_call, oXf_call, oXt_prim, oXf_prim, oXt_isi, oXf_isi, oXt_comp, oXf_comp, oXt_app, oXf_app, oXt_ext, oXf_ext, oXt_pop, oXf_pop, oXf_var, oXt_var, oX_lend, eX_var, eX_non, eX_bl, eX_int, eX_str, eX_glb, eX_bin, eX_neg, eX_not, eX_cmp, eX_chain, eX_and, eX_or, eX_ife, eX_sub, eX_slc, eX_rev, eX_tup, eX_lst, eX_call, eX_prim, eX_isi, eX_comp, eX_app, eX_ext, eX_pop, eP_nil, eP_cons, eL_nil, eL_cons, eI_rng1, eI_rng2, eI_cons, eS_nil, eS_cons, eS_set, eS_unp, eS_sti, eS_ex, eS_ifs, eS_whl, eS_fors, eS_brk, eS_cnt, eS_pas, eS_retv, eS_ret_non, eS_ret_bl, eS_ret_int, eS_ret_str, eS_ret_glb, eS_ret_bin, eS_ret_neg, eS_ret_not, eS_ret_cmp, eS_ret_chain, eS_ret_and, eS_ret_or, eS_ret_ife, eS_ret_sub, eS_ret_slc, eS_ret_rev, eS_ret_tup, eS_ret_lst, eS_ret_call, eS_ret_prim, eS_ret_isi, eS_ret_comp, eS_ret_app, eS_ret_ext, eS_ret_pop, lpS_nil, lpS_cons, cmS_nil, cmS_cons, rdO, rdS, rdAll, frz, valsOf, argsOf, slotsOf, putBack, subD, slD, prD, seqD, asg, asgs, bopD, copD, eqD, truS, List.mapIdx_cons, List.mapIdx_nil, List.getElem?_cons_zero, List.getElem?_cons_succ, List.set_cons_zero, List.set_cons_succ, List.length_cons, List.length_nil, List.cons_append, List.nil_append, List.replicate_zero, List.replicate_succ, List.append_nil, List.nodup_nil, List.nodup_cons, List.not_mem_nil, Nat.sub_self, Nat.add_one_sub_one, Nat.zero_lt_succ, if_true, if_false, eq_self_iff_true, reduceIte, reduceCtorEq, Nat.zero_le, slv, not_false_eq_true, and_self, and_true, true_and, List.singleton_append, Bool.not_true, Bool.not_false, List.foldl_nil, ite_true, ite_false, beq_self_eq_true, Nat.reduceAdd, Nat.reduceLT, Nat.reduceLeDiff, Nat.reduceSub, Nat.reduceEqDiff, Nat.reduceMul, Int.reduceAdd, Int.reduceLT, Int.reduceLE, Int.reduceNeg, Int.reduceEq, Int.reduceSub, decide_true, decide_false, decide_eq_true_eq, cond_true, cond_false, Int.reducePow, l']
    rw [e, List.append_assoc]
    rfl
theorem shift_ok {K : Nat} (hK : 1 ≤ K) (T : Tb) (m : Nat) (last : Option Nat) (h : T.length ≤ 100000) : fnK rs gl0 K 15 [.val (.list (T.map oN)), .val (.int (m : Int)), .val (oN last)] = some (.own none ((T.map (shO m last)).map oN), [.un, .un, .un]) := by
  obtain ⟨k, rfl⟩ : ∃ k, K = k + 1 := ⟨K - 1, by omega⟩
  obtain ⟨s', e⟩ := shift_loop ⟨fnK rs gl0 k, gl0⟩ (.val (.list (T.map oN))) m last T [] .un (by simp only [List.length_nil]; omega)
  rw [run15]
  simp only [runF, tagA, outsA, oXt_non, oXf_non, oXt_bl, oXf_bl, oXt_int, oXf_int, oXt_str, oXf_str, oXt_glb, oXf_glb, oXt_bin, oXf_bin, oXt_neg, oXf_neg, oXt_not, oXf_not, oXt_cmp, oXf_cmp, oXt_chain, oXf_chain, oXt_and, oXf_and, oXt_or, oXf_or, oXt_ife, oXf_ife, oXt_sub, oXf_sub, oXt_slc, oXf_slc, oXt_rev, oXf_rev, oXt_tup, oXf_tup, oXt_lst, oXf_lst, oXt_call, oXf_call, oXt_prim, oXf_prim, oXt_isi, oXf_isi, oXt_comp, oXf_comp, oXt_app, oXf_app, oXt_ext, oXf_ext, oXt_pop, oXf_pop, oXf_var, oXt_var, oX_lend, eX_var, eX_non, eX_bl, eX_int, eX_str, eX_glb, eX_bin, eX_neg, eX_not, eX_cmp, eX_chain, eX_and, eX_or, eX_ife, eX_sub, eX_slc, eX_rev, eX_tup, eX_lst, eX_call, eX_prim, eX_isi, eX_comp, eX_app, eX_ext, eX_pop, eP_nil, eP_cons, eL_nil, eL_cons, eI_rng1, eI_rng2, eI_cons, eS_nil, eS_cons, eS_set, eS_unp, eS_sti, eS_ex, eS_ifs, eS_whl, eS_fors, eS_brk, eS_cnt, eS_pas, eS_retv, eS_ret_non, eS_ret_bl, eS_ret_int, eS_ret_str, eS_ret_glb, eS_ret_bin, eS_ret_neg, eS_ret_not, eS_ret_cmp, eS_ret_chain, eS_ret_and, eS_ret_or, eS_ret_ife, eS_ret_sub, eS_ret_slc, eS_ret_rev, eS_ret_tup, eS_ret_lst, eS_ret_call, eS_ret_prim, eS_ret_isi, eS_ret_comp, eS_ret_app, eS_ret_ext, eS_ret_pop, lpS_nil, lpS_cons, cmS_nil, cmS_cons, rdO, rdS, rdAll, frz, valsOf, argsOf, slotsOf, putBack, subD, slD, prD, seqD, asg, asgs, bopD, copD, eqD, truS, List.mapIdx_cons, List.mapIdx_nil, List.getElem?_cons_zero, List.getElem?_cons_succ, List.set_cons_zero, List.set_cons_succ, List.length_cons, List.length_nil, List.cons_append, List.nil_append, List.replicate_zero, List.replicate_succ, List.append_nil, List.nodup_nil, List.nodup_cons, List.not_mem_nil, Nat.sub_self, Nat.add_one_sub_one, Nat.zero_lt_succ, if_true, if_false, eq_self_iff_true, reduceIte, reduceCtorEq, Nat.zero_le, slv, not_false_eq_true, and_self, and_true, true_and, List.singleton_append, Bool.not_true, Bool.not_false, List.foldl_nil, ite_true, ite_false, beq_self_eq_true, Nat.reduceAdd, Nat.reduceLT, Nat.reduceLeDiff, Nat.reduceSub, Nat.reduceEqDiff, Nat.reduceMul, Int.reduceAdd, Int.reduceLT, Int.reduceLE, Int.reduceNeg, Int.reduceEq, Int.reduceSub, decide_true, decide_false, decide_eq_true_eq, cond_true, cond_false, Int.reducePow, e]
theorem mxN2 (a b : Nat) : (if (b : Int) > (a : Int) then (b : Int) else (a : Int)) = ((max a b : Nat) : Int) := by
  by_cases h : (b : Int) > (a : Int)
  · rw [if_pos h]; omega
  · rw [if_neg h]; omega
theorem sq0 (b : Blk) : subD (pc b) (.int 0) = some (.tuple (enc b)) := rfl
theorem sq1 (b : Blk) : subD (pc b) (.int 1) = some (.list (num b)) := rfl
theorem sq2 (b : Blk) : subD (pc b) (.int 2) = some (.list ((tab b 0 none).map oN)) := rfl
theorem sq3 (b : Blk) : subD (pc b) (.int 3) = some (.bool (hasI b)) := rfl
theorem sq4 (b : Blk) : subD (pc b) (.int 4) = some (.int (dep b)) := rfl
theorem at21 (a b : PD) : subD (.list [a, b]) (.int 1) = some b := rfl
theorem at20 (a b : PD) : subD (.list [a, b]) (.int 0) = some a := rfl
theorem wt_nil {b : Blk} (h : wt b = 0) : b = .nil := by
  cases b <;> simp only [wt] at h <;> first | rfl | omega
theorem nxt_pos : ∀ {b : Blk} (n : Nat) (L : Option Nat), 0 < wt b → nxt b n L = some (n + 1)
  | .nil, _, _, h => absurd h (by decide)
  | .simp _ _ _, _, _, _ => rfl
  | .inner _, _, _, _ => rfl
  | .ife _ _ _ _, _, _, _ => rfl
  | .whl _ _ _, _, _, _ => rfl
theorem both_ok {K : Nat} (hK : 2 ≤ K) (a b : Blk) (ha : wt a ≤ 10000) (hb : wt b ≤ 10000) : fnK rs gl0 K 16 [.val (pc a), .val (pc b)] = some (.own none (pcl (app a b)), [.un, .un]) := by
  obtain ⟨k, rfl⟩ : ∃ k, K = k + 2 := ⟨K - 2, by omega⟩
  have la := enc_len a
  have lb := enc_len b
  have l1 : (enc a).length + (enc b).length ≤ 16777216 := by omega
  have l2 : wt a + wt b ≤ 16777216 := by omega
  have t := tab_app a b 0 none
  have ta := tab_sh 0 (nxt b (wt a) none) a 0 none
  have tb := tab_sh (wt a) none b 0 none
  have e1 := shift_ok (K := k + 1) (by omega) (tab a 0 none) 0 (nxt b (wt a) none) (by rw [tab_len]; omega)
  have e2 := shift_ok (K := k + 1) (by omega) (tab b 0 none) (wt a) none (by rw [tab_len]; omega)
  rw [ta] at e1
  rw [tb] at e2
  simp only [Nat.zero_add, Nat.add_zero, shO] at e1 e2 t
  have z0 : ((0 : Nat) : Int) = 0 := rfl
  rw [z0] at e1
  have o0 : oN none = .none := rfl
  rw [o0] at e2
  have mx := mxN2 (dep a) (dep b)
  have tl : (List.map oN (tab a 0 (nxt b (wt a) none))).length + (List.map oN (tab b (wt a) none)).length ≤ 16777216 := by simp only [List.length_map, tab_len]; omega
  have fin : pcl (app a b) = [.tuple (enc a ++ enc b), .list (num a ++ num b), .list (List.map oN (tab a 0 (nxt b (wt a) none)) ++ List.map oN (tab b (wt a) none)), .bool (hasI a || hasI b), .int ((max (dep a) (dep b) : Nat) : Int)] := by
    simp only [pcl, enc_app, num_app, t, List.map_append, hasI_app, dep_app]
  have la' : evX ⟨fnK rs gl0 (k + 1), gl0⟩ (.sub (.lst (.cons .non (.cons (.bin .add (.var 2) (.int 1)) .nil))) (.prim .int (.cons (.cmp .gt (.prim .len (.cons (.sub (.var 1) (.int 1)) .nil)) (.int 0)) .nil))) [.val (pc a), .val (pc b), .val (.int (wt a : Int)), .un, .un] = some (.val (oN (nxt b (wt a) none)), [.val (pc a), .val (pc b), .val (.int (wt a : Int)), .un, .un]) := by
    by_cases h : 0 < wt b
    · have h' : (0 : Int) < (wt b : Int) := by omega
      rw [nxt_pos _ _ h]
      have q : oN (some (wt a + 1)) = .int ((wt a : Int) + 1) := rfl
      rw [q]
      have hb1 := sq1 b
      generalize pc a = P at *
      generalize pc b = Q at *
      simp only [runF, tagA, outsA, oXt_non, oXf_non, oXt_bl, oXf_bl, oXt_int, oXf_int, oXt_str, oXf_str, oXt_glb, oXf_glb, oXt_bin, oXf_bin, oXt_neg, oXf_neg, oXt_not, oXf_not, oXt_cmp, oXf_cmp, oXt_chain, oXf_chain, oXt_and, oXf_and, oXt_or, oXf_or, oXt_ife, oXf_ife, oXt_sub, oXf_sub, oXt_slc, oXf_slc, oXt_rev, oXf_rev, oXt_tup, oXf_tup, oXt_lst, oXf_lst, oXt_call, oXf_call, oXt_prim, oXf_prim, oXt_isi, oXf_isi, oXt_comp, oXf_comp, oXt_app, oXf_app, oXt_ext, oXf_ext, oXt_pop, oXf_pop, oXf_var, oXt_var, oX_lend, eX_var, eX_non, eX_bl, eX_int, eX_str, eX_glb, eX_bin, eX_neg, eX_not, eX_cmp, eX_chain, eX_and, eX_or, eX_ife, eX_sub, eX_slc, eX_rev, eX_tup, eX_lst, eX_call, eX_prim, eX_isi, eX_comp, eX_app, eX_ext, eX_pop, eP_nil, eP_cons, eL_nil, eL_cons, eI_rng1, eI_rng2, eI_cons, eS_nil, eS_cons, eS_set, eS_unp, eS_sti, eS_ex, eS_ifs, eS_whl, eS_fors, eS_brk, eS_cnt, eS_pas, eS_retv, eS_ret_non, eS_ret_bl, eS_ret_int, eS_ret_str, eS_ret_glb, eS_ret_bin, eS_ret_neg, eS_ret_not, eS_ret_cmp, eS_ret_chain, eS_ret_and, eS_ret_or, eS_ret_ife, eS_ret_sub, eS_ret_slc, eS_ret_rev, eS_ret_tup, eS_ret_lst, eS_ret_call, eS_ret_prim, eS_ret_isi, eS_ret_comp, eS_ret_app, eS_ret_ext, eS_ret_pop, lpS_nil, lpS_cons, cmS_nil, cmS_cons, rdO, rdS, rdAll, frz, valsOf, argsOf, slotsOf, putBack, slD, prD, seqD, asg, asgs, bopD, copD, eqD, truS, List.mapIdx_cons, List.mapIdx_nil, List.getElem?_cons_zero, List.getElem?_cons_succ, List.set_cons_zero, List.set_cons_succ, List.length_cons, List.length_nil, List.cons_append, List.nil_append, List.replicate_zero, List.replicate_succ, List.append_nil, List.nodup_nil, List.nodup_cons, List.not_mem_nil, Nat.sub_self, Nat.add_one_sub_one, Nat.zero_lt_succ, if_true, if_false, eq_self_iff_true, reduceIte, reduceCtorEq, Nat.zero_le, slv, not_false_eq_true, and_self, and_true, true_and, List.singleton_append, Bool.not_true, Bool.not_false, List.foldl_nil, ite_true, ite_false, beq_self_eq_true, Nat.reduceAdd, Nat.reduceLT, Nat.reduceLeDiff, Nat.reduceSub, Nat.reduceEqDiff, Nat.reduceMul, Int.reduceAdd, Int.reduceLT, Int.reduceLE, Int.reduceNeg, Int.reduceEq, Int.reduceSub, decide_true, decide_false, decide_eq_true_eq, cond_true, cond_false, Int.reducePow, hb1, num_len, h', at21]
    · have h' : ¬ ((0 : Int) < (wt b : Int)) := by omega
      have e0 := wt_nil (show wt b = 0 by omega)
      have q : oN (nxt b (wt a) none) = .none := by rw [e0]; rfl
      rw [q]
      have hb1 := sq1 b
      generalize pc a = P at *
      generalize pc b = Q at *
      simp only [runF, tagA, outsA, oXt_non, oXf_non, oXt_bl, oXf_bl, oXt_int, oXf_int, oXt_str, oXf_str, oXt_glb, oXf_glb, oXt_bin, oXf_bin, oXt_neg, oXf_neg, oXt_not, oXf_not, oXt_cmp, oXf_cmp, oXt_chain, oXf_chain, oXt_and, oXf_and, oXt_or, oXf_or, oXt_ife, oXf_ife, oXt_sub, oXf_sub, oXt_slc, oXf_slc, oXt_rev, oXf_rev, oXt_tup, oXf_tup, oXt_lst, oXf_lst, oXt_call, oXf_call, oXt_prim, oXf_prim, oXt_isi, oXf_isi, oXt_comp, oXf_comp, oXt_app, oXf_app, oXt_ext, oXf_ext, oXt_pop, oXf_pop, oXf_var, oXt_var, oX_lend, eX_var, eX_non, eX_bl, eX_int, eX_str, eX_glb, eX_bin, eX_neg, eX_not, eX_cmp, eX_chain, eX_and, eX_or, eX_ife, eX_sub, eX_slc, eX_rev, eX_tup, eX_lst, eX_call, eX_prim, eX_isi, eX_comp, eX_app, eX_ext, eX_pop, eP_nil, eP_cons, eL_nil, eL_cons, eI_rng1, eI_rng2, eI_cons, eS_nil, eS_cons, eS_set, eS_unp, eS_sti, eS_ex, eS_ifs, eS_whl, eS_fors, eS_brk, eS_cnt, eS_pas, eS_retv, eS_ret_non, eS_ret_bl, eS_ret_int, eS_ret_str, eS_ret_glb, eS_ret_bin, eS_ret_neg, eS_ret_not, eS_ret_cmp, eS_ret_chain, eS_ret_and, eS_ret_or, eS_ret_ife, eS_ret_sub, eS_ret_slc, eS_ret_rev, eS_ret_tup, eS_ret_lst, eS_ret_call, eS_ret_prim, eS_ret_isi, eS_ret_comp, eS_ret_app, eS_ret_ext, eS_ret_pop, lpS_nil, lpS_cons, cmS_nil, cmS_cons, rdO, rdS, rdAll, frz, valsOf, argsOf, slotsOf, putBack, slD, prD, seqD, asg, asgs, bopD, copD, eqD, truS, List.mapIdx_cons, List.mapIdx_nil, List.getElem?_cons_zero, List.getElem?_cons_succ, List.set_cons_zero, List.set_cons_succ, List.length_cons, List.length_nil, List.cons_append, List.nil_append, List.replicate_zero, List.replicate_succ, List.append_nil, List.nodup_nil, List.nodup_cons, List.not_mem_nil, Nat.sub_self, Nat.add_one_sub_one, Nat.zero_lt_succ, if_true, if_false, eq_self_iff_true, reduceIte, reduceCtorEq, Nat.zero_le, slv, not_false_eq_true, and_self, and_true, true_and, List.singleton_append, Bool.not_true, Bool.not_false, List.foldl_nil, ite_true, ite_false, beq_self_eq_true, Nat.reduceAdd, Nat.reduceLT, Nat.reduceLeDiff, Nat.reduceSub, Nat.reduceEqDiff, Nat.reduceMul, Int.reduceAdd, Int.reduceLT, Int.reduceLE, Int.reduceNeg, Int.reduceEq, Int.reduceSub, decide_true, decide_false, decide_eq_true_eq, cond_true, cond_false, Int.reducePow, hb1, num_len, h', at20, Bool.false_eq_true]
  have s0 := sq0 a
  have s1 := sq1 a
  have s2 := sq2 a
  have s3 := sq3 a
  have s4 := sq4 a
  have r0 := sq0 b
  have r1 := sq1 b
  have r2 := sq2 b
  have r3 := sq3 b
  have r4 := sq4 b
  rw [run16, fin]
  generalize pc a = P at *
  generalize pc b = Q at *
  cases h : hasI a with
  | true =>
    rw [h] at s3
    simp only [runF, tagA, outsA, oXt_non, oXf_non, oXt_bl, oXf_bl, oXt_int, oXf_int, oXt_str, oXf_str, oXt_glb, oXf_glb, oXt_bin, oXf_bin, oXt_neg, oXf_neg, oXt_not, oXf_not, oXt_cmp, oXf_cmp, oXt_chain, oXf_chain, oXt_and, oXf_and, oXt_or, oXf_or, oXt_ife, oXf_ife, oXt_sub, oXf_sub, oXt_slc, oXf_slc, oXt_rev, oXf_rev, oXt_tup, oXf_tup, oXt_lst, oXf_lst, oXt_call, oXf_call, oXt_prim, oXf_prim, oXt_isi, oXf_isi, oXt_comp, oXf_comp, oXt_app, oXf_app, oXt_ext, oXf_ext, oXt_pop, oXf_pop, oXf_var, oXt_var, oX_lend, eX_var, eX_non, eX_bl, eX_int, eX_str, eX_glb, eX_bin, eX_neg, eX_not, eX_cmp, eX_chain, eX_and, eX_or, eX_ife, eX_sub, eX_slc, eX_rev, eX_tup, eX_lst, eX_call, eX_prim, eX_isi, eX_comp, eX_app, eX_ext, eX_pop, eP_nil, eP_cons, eL_nil, eL_cons, eI_rng1, eI_rng2, eI_cons, eS_nil, eS_cons, eS_set, eS_unp, eS_sti, eS_ex, eS_ifs, eS_whl, eS_fors, eS_brk, eS_cnt, eS_pas, eS_retv, eS_ret_non, eS_ret_bl, eS_ret_int, eS_ret_str, eS_ret_glb, eS_ret_bin, eS_ret_neg, eS_ret_not, eS_ret_cmp, eS_ret_chain, eS_ret_and, eS_ret_or, eS_ret_ife, eS_ret_sub, eS_ret_slc, eS_ret_rev, eS_ret_tup, eS_ret_lst, eS_ret_call, eS_ret_prim, eS_ret_isi, eS_ret_comp, eS_ret_app, eS_ret_ext, eS_ret_pop, lpS_nil, lpS_cons, cmS_nil, cmS_cons, rdO, rdS, rdAll, frz, valsOf, argsOf, slotsOf, putBack, slD, prD, seqD, asg, asgs, bopD, copD, eqD, truS, List.mapIdx_cons, List.mapIdx_nil, List.getElem?_cons_zero, List.getElem?_cons_succ, List.set_cons_zero, List.set_cons_succ, List.length_cons, List.length_nil, List.cons_append, List.nil_append, List.replicate_zero, List.replicate_succ, List.append_nil, List.nodup_nil, List.nodup_cons, List.not_mem_nil, Nat.sub_self, Nat.add_one_sub_one, Nat.zero_lt_succ, if_true, if_false, eq_self_iff_true, reduceIte, reduceCtorEq, Nat.zero_le, slv, not_false_eq_true, and_self, and_true, true_and, List.singleton_append, Bool.not_true, Bool.not_false, List.foldl_nil, ite_true, ite_false, beq_self_eq_true, Nat.reduceAdd, Nat.reduceLT, Nat.reduceLeDiff, Nat.reduceSub, Nat.reduceEqDiff, Nat.reduceMul, Int.reduceAdd, Int.reduceLT, Int.reduceLE, Int.reduceNeg, Int.reduceEq, Int.reduceSub, decide_true, decide_false, decide_eq_true_eq, cond_true, cond_false, Int.reducePow, la', s0, s1, s2, s3, s4, r0, r1, r2, r3, r4, num_len, e1, e2, l1, l2, tl, mx, Bool.true_or]
  | false =>
    rw [h] at s3
    simp only [runF, tagA, outsA, oXt_non, oXf_non, oXt_bl, oXf_bl, oXt_int, oXf_int, oXt_str, oXf_str, oXt_glb, oXf_glb, oXt_bin, oXf_bin, oXt_neg, oXf_neg, oXt_not, oXf_not, oXt_cmp, oXf_cmp, oXt_chain, oXf_chain, oXt_and, oXf_and, oXt_or, oXf_or, oXt_ife, oXf_ife, oXt_sub, oXf_sub, oXt_slc, oXf_slc, oXt_rev, oXf_rev, oXt_tup, oXf_tup, oXt_lst, oXf_lst, oXt_call, oXf_call, oXt_prim, oXf_prim, oXt_isi, oXf_isi, oXt_comp, oXf_comp, oXt_app, oXf_app, oXt_ext, oXf_ext, oXt_pop, oXf_pop, oXf_var, oXt_var, oX_lend, eX_var, eX_non, eX_bl, eX_int, eX_str, eX_glb, eX_bin, eX_neg, eX_not, eX_cmp, eX_chain, eX_and, eX_or, eX_ife, eX_sub, eX_slc, eX_rev, eX_tup, eX_lst, eX_call, eX_prim, eX_isi, eX_comp, eX_app, eX_ext, eX_pop, eP_nil, eP_cons, eL_nil, eL_cons, eI_rng1, eI_rng2, eI_cons, eS_nil, eS_cons, eS_set, eS_unp, eS_sti, eS_ex, eS_ifs, eS_whl, eS_fors, eS_brk, eS_cnt, eS_pas, eS_retv, eS_ret_non, eS_ret_bl, eS_ret_int, eS_ret_str, eS_ret_glb, eS_ret_bin, eS_ret_neg, eS_ret_not, eS_ret_cmp, eS_ret_chain, eS_ret_and, eS_ret_or, eS_ret_ife, eS_ret_sub, eS_ret_slc, eS_ret_rev, eS_ret_tup, eS_ret_lst, eS_ret_call, eS_ret_prim, eS_ret_isi, eS_ret_comp, eS_ret_app, eS_ret_ext, eS_ret_pop, lpS_nil, lpS_cons, cmS_nil, cmS_cons, rdO, rdS, rdAll, frz, valsOf, argsOf, slotsOf, putBack, slD, prD, seqD, asg, asgs, bopD, copD, eqD, truS, List.mapIdx_cons, List.mapIdx_nil, List.getElem?_cons_zero, List.getElem?_cons_succ, List.set_cons_zero, List.set_cons_succ, List.length_cons, List.length_nil, List.cons_append, List.nil_append, List.replicate_zero, List.replicate_succ, List.append_nil, List.nodup_nil, List.nodup_cons, List.not_mem_nil, Nat.sub_self, Nat.add_one_sub_one, Nat.zero_lt_succ, if_true, if_false, eq_self_iff_true, reduceIte, reduceCtorEq, Nat.zero_le, slv, not_false_eq_true, and_self, and_true, true_and, List.singleton_append, Bool.not_true, Bool.not_false, List.foldl_nil, ite_true, ite_false, beq_self_eq_true, Nat.reduceAdd, Nat.reduceLT, Nat.reduceLeDiff, Nat.reduceSub, Nat.reduceEqDiff, Nat.reduceMul, Int.reduceAdd, Int.reduceLT, Int.reduceLE, Int.reduceNeg, Int.reduceEq, Int.reduceSub, decide_true, decide_false, decide_eq_true_eq, cond_true, cond_false, Int.reducePow, la', s0, s1, s2, s3, s4, r0, r1, r2, r3, r4, num_len, e1, e2, l1, l2, tl, mx, Bool.false_or]
theorem if_ok {K : Nat} (hK : 2 ≤ K) (t : PD) (a b : Blk) (ha : wt a ≤ 10000) (hb : wt b ≤ 10000) : fnK rs gl0 K 17 [.val t, .val (pc a), .val (pc b)] = some (.own none (pcl (.ife t a b .nil)), [.un, .un, .un]) := by
  obtain ⟨k, rfl⟩ : ∃ k, K = k + 2 := ⟨K - 2, by omega⟩
  have l1 : 1 + wt a ≤ 16777216 := by omega
  have l2 : wt a + 1 + wt b ≤ 16777216 := by omega
  have ta := tab_sh 1 none a 0 none
  have tb := tab_sh (1 + wt a) none b 0 none
  have e1 := shift_ok (K := k + 1) (by omega) (tab a 0 none) 1 none (by rw [tab_len]; omega)
  have e2 := shift_ok (K := k + 1) (by omega) (tab b 0 none) (1 + wt a) none (by rw [tab_len]; omega)
  rw [ta] at e1
  rw [tb] at e2
  simp only [Nat.zero_add, Nat.add_zero, shO] at e1 e2
  have z0 : ((1 : Nat) : Int) = 1 := rfl
  rw [z0] at e1
  have z1 : ((1 + wt a : Nat) : Int) = 1 + (wt a : Int) := by omega
  rw [z1] at e2
  have o0 : oN none = .none := rfl
  rw [o0] at e1 e2
  have mx := mxN2 (dep a) (dep b)
  have tl : 1 + (List.map oN (tab a 1 none)).length ≤ 16777216 := by simp only [List.length_map, tab_len]; omega
  have tl2 : (List.map oN (tab a 1 none)).length + 1 + (List.map oN (tab b (1 + wt a) none)).length ≤ 16777216 := by simp only [List.length_map, tab_len]; omega
  have dd : 1 + ((max (dep a) (dep b) : Nat) : Int) = ((dep (.ife t a b .nil) : Nat) : Int) := by
    simp only [dep]
    have := dep_pos a
    omega
  have tt : tab (.ife t a b .nil) 0 none = none :: (tab a 1 none ++ tab b (1 + wt a) none) := by
    simp only [tab, nx0, List.append_nil, Nat.zero_add]
  have fin : pcl (.ife t a b .nil) = [.tuple [.tuple [.str "if", t, .tuple (enc a), .tuple (enc b)]], .list (.tuple [.str "if", t, .tuple (enc a), .tuple (enc b)] :: (num a ++ num b)), .list (.none :: (List.map oN (tab a 1 none) ++ List.map oN (tab b (1 + wt a) none))), .bool (hasI a || hasI b), .int (1 + ((max (dep a) (dep b) : Nat) : Int))] := by
    rw [dd]
    simp only [pcl, tt, enc, num, List.map_append, List.map_cons, o0, hasI, List.append_nil, Bool.or_false]
  have s0 := sq0 a
  have s1 := sq1 a
  have s2 := sq2 a
  have s3 := sq3 a
  have s4 := sq4 a
  have r0 := sq0 b
  have r1 := sq1 b
  have r2 := sq2 b
  have r3 := sq3 b
  have r4 := sq4 b
  rw [run17, fin]
  generalize pc a = P at *
  generalize pc b = Q at *
  cases h : hasI a with
  | true =>
    rw [h] at s3
    simp only [runF, tagA, outsA, oXt_non, oXf_non, oXt_bl, oXf_bl, oXt_int, oXf_int, oXt_str, oXf_str, oXt_glb, oXf_glb, oXt_bin, oXf_bin, oXt_neg, oXf_neg, oXt_not, oXf_not, oXt_cmp, oXf_cmp, oXt_chain, oXf_chain, oXt_and, oXf_and, oXt_or, oXf_or, oXt_ife, oXf_ife, oXt_sub, oXf_sub, oXt_slc, oXf_slc, oXt_rev, oXf_rev, oXt_tup, oXf_tup, oXt_lst, oXf_lst, oXt_call, oXf_call, oXt_prim, oXf_prim, oXt_isi, oXf_isi, oXt_comp, oXf_comp, oXt_app, oXf_app, oXt_ext, oXf_ext, oXt_pop, oXf_pop, oXf_var, oXt_var, oX_lend, eX_var, eX_non, eX_bl, eX_int, eX_str, eX_glb, eX_bin, eX_neg, eX_not, eX_cmp, eX_chain, eX_and, eX_or, eX_ife, eX_sub, eX_slc, eX_rev, eX_tup, eX_lst, eX_call, eX_prim, eX_isi, eX_comp, eX_app, eX_ext, eX_pop, eP_nil, eP_cons, eL_nil, eL_cons, eI_rng1, eI_rng2, eI_cons, eS_nil, eS_cons, eS_set, eS_unp, eS_sti, eS_ex, eS_ifs, eS_whl, eS_fors, eS_brk, eS_cnt, eS_pas, eS_retv, eS_ret_non, eS_ret_bl, eS_ret_int, eS_ret_str, eS_ret_glb, eS_ret_bin, eS_ret_neg, eS_ret_not, eS_ret_cmp, eS_ret_chain, eS_ret_and, eS_ret_or, eS_ret_ife, eS_ret_sub, eS_ret_slc, eS_ret_rev, eS_ret_tup, eS_ret_lst, eS_ret_call, eS_ret_prim, eS_ret_isi, eS_ret_comp, eS_ret_app, eS_ret_ext, eS_ret_pop, lpS_nil, lpS_cons, cmS_nil, cmS_cons, rdO, rdS, rdAll, frz, valsOf, argsOf, slotsOf, putBack, slD, prD, seqD, asg, asgs, bopD, copD, eqD, truS, List.mapIdx_cons, List.mapIdx_nil, List.getElem?_cons_zero, List.getElem?_cons_succ, List.set_cons_zero, List.set_cons_succ, List.length_cons, List.length_nil, List.cons_append, List.nil_append, List.replicate_zero, List.replicate_succ, List.append_nil, List.nodup_nil, List.nodup_cons, List.not_mem_nil, Nat.sub_self, Nat.add_one_sub_one, Nat.zero_lt_succ, if_true, if_false, eq_self_iff_true, reduceIte, reduceCtorEq, Nat.zero_le, slv, not_false_eq_true, and_self, and_true, true_and, List.singleton_append, Bool.not_true, Bool.not_false, List.foldl_nil, ite_true, ite_false, beq_self_eq_true, Nat.reduceAdd, Nat.reduceLT, Nat.reduceLeDiff, Nat.reduceSub, Nat.reduceEqDiff, Nat.reduceMul, Int.reduceAdd, Int.reduceLT, Int.reduceLE, Int.reduceNeg, Int.reduceEq, Int.reduceSub, decide_true, decide_false, decide_eq_true_eq, cond_true, cond_false, Int.reducePow, s0, s1, s2, s3, s4, r0, r1, r2, r3, r4, num_len, e1, e2, l1, l2, tl, tl2, mx, Bool.true_or]
  | false =>
    rw [h] at s3
    simp only [runF, tagA, outsA, oXt_non, oXf_non, oXt_bl, oXf_bl, oXt_int, oXf_int, oXt_str, oXf_str, oXt_glb, oXf_glb, oXt_bin, oXf_bin, oXt_neg, oXf_neg, oXt_not, oXf_not, oXt_cmp, oXf_cmp, oXt_chain, oXf_chain, oXt_and, oXf_and, oXt_or, oXf_or, oXt_ife, oXf_ife, oXt_sub, oXf_sub, oXt_slc, oXf_slc, oXt_rev, oXf_rev, oXt_tup, oXf_tup, oXt_lst, oXf_lst, oXt_call, oXf_call, oXt_prim, oXf_prim, oXt_isi, oXf_isi, oXt_comp, oXf_comp, oXt_app, oXf_app, oXt_ext, oXf_ext, oXt_pop, oXf_pop, oXf_var, oXt_var, oX_lend, eX_var, eX_non, eX_bl, eX_int, eX_str, eX_glb, eX_bin, eX_neg, eX_not, eX_cmp, eX_chain, eX_and, eX_or, eX_ife, eX_sub, eX_slc, eX_rev, eX_tup, eX_lst, eX_call, eX_prim, eX_isi, eX_comp, eX_app, eX_ext, eX_pop, eP_nil, eP_cons, eL_nil, eL_cons, eI_rng1, eI_rng2, eI_cons, eS_nil, eS_cons, eS_set, eS_unp, eS_sti, eS_ex, eS_ifs, eS_whl, eS_fors, eS_brk, eS_cnt, eS_pas, eS_retv, eS_ret_non, eS_ret_bl, eS_ret_int, eS_ret_str, eS_ret_glb, eS_ret_bin, eS_ret_neg, eS_ret_not, eS_ret_cmp, eS_ret_chain, eS_ret_and, eS_ret_or, eS_ret_ife, eS_ret_sub, eS_ret_slc, eS_ret_rev, eS_ret_tup, eS_ret_lst, eS_ret_call, eS_ret_prim, eS_ret_isi, eS_ret_comp, eS_ret_app, eS_ret_ext, eS_ret_pop, lpS_nil, lpS_cons, cmS_nil, cmS_cons, rdO, rdS, rdAll, frz, valsOf, argsOf, slotsOf, putBack, slD, prD, seqD, asg, asgs, bopD, copD, eqD, truS, List.mapIdx_cons, List.mapIdx_nil, List.getElem?_cons_zero, List.getElem?_cons_succ, List.set_cons_zero, List.set_cons_succ, List.length_cons, List.length_nil, List.cons_append, List.nil_append, List.replicate_zero, List.replicate_succ, List.append_nil, List.nodup_nil, List.nodup_cons, List.not_mem_nil, Nat.sub_self, Nat.add_one_sub_one, Nat.zero_lt_succ, if_true, if_false, eq_self_iff_true, reduceIte, reduceCtorEq, Nat.zero_le, slv, not_false_eq_true, and_self, and_true, true_and, List.singleton_append, Bool.not_true, Bool.not_false, List.foldl_nil, ite_true, ite_false, beq_self_eq_true, Nat.reduceAdd, Nat.reduceLT, Nat.reduceLeDiff, Nat.reduceSub, Nat.reduceEqDiff, Nat.reduceMul, Int.reduceAdd, Int.reduceLT, Int.reduceLE, Int.reduceNeg, Int.reduceEq, Int.reduceSub, decide_true, decide_false, decide_eq_true_eq, cond_true, cond_false, Int.reducePow, s0, s1, s2, s3, s4, r0, r1, r2, r3, r4, num_len, e1, e2, l1, l2, tl, tl2, mx, Bool.false_or]
theorem while_ok {K : Nat} (hK : 2 ≤ K) (t : PD) (a : Blk) (ha : wt a ≤ 10000) : fnK rs gl0 K 18 [.val t, .val (pc a)] = some (.own none (pcl (.whl t a .nil)), [.un, .un]) := by
  obtain ⟨k, rfl⟩ : ∃ k, K = k + 2 := ⟨K - 2, by omega⟩
  have l1 : 1 + wt a ≤ 16777216 := by omega
  have ta := tab_sh 1 (some 1) a 0 none
  have e1 := shift_ok (K := k + 1) (by omega) (tab a 0 none) 1 (some 1) (by rw [tab_len]; omega)
  rw [ta] at e1
  simp only [Nat.zero_add, Nat.add_zero, shO] at e1
  have z0 : ((1 : Nat) : Int) = 1 := rfl
  rw [z0] at e1
  have o0 : oN none = .none := rfl
  have o1 : oN (some 1) = .int 1 := rfl
  rw [o1] at e1
  have tl : 1 + (List.map oN (tab a 1 (some 1))).length ≤ 16777216 := by simp only [List.length_map, tab_len]; omega
  have dd : 1 + (dep a : Int) = ((dep (.whl t a .nil) : Nat) : Int) := by
    simp only [dep]
    have := dep_pos a
    omega
  have tt : tab (.whl t a .nil) 0 none = none :: tab a 1 (some 1) := by
    simp only [tab, nx0, List.append_nil, Nat.zero_add]
  have fin : pcl (.whl t a .nil) = [.tuple [.tuple [.str "while", t, .tuple (enc a)]], .list (.tuple [.str "while", t, .tuple (enc a)] :: num a), .list (.none :: List.map oN (tab a 1 (some 1))), .bool (hasI a), .int (1 + (dep a : Int))] := by
    rw [dd]
    simp only [pcl, tt, enc, num, List.map_cons, o0, hasI, List.append_nil, Bool.or_false]
  have s0 := sq0 a
  have s1 := sq1 a
  have s2 := sq2 a
  have s3 := sq3 a
  have s4 := sq4 a
  rw [run18, fin]
  generalize pc a = P at *
  simp only [runF, tagA, outsA, oXt_non, oXf_non, oXt_bl, oXf_bl, oXt_int, oXf_int, oXt_str, oXf_str, oXt_glb, oXf_glb, oXt_bin, oXf_bin, oXt_neg, oXf_neg, oXt_not, oXf_not, oXt_cmp, oXf_cmp, oXt_chain, oXf_chain, oXt_and, oXf_and, oXt_or, oXf_or, oXt_ife, oXf_ife, oXt_sub, oXf_sub, oXt_slc, oXf_slc, oXt_rev, oXf_rev, oXt_tup, oXf_tup, oXt_lst, oXf_lst, oXt_call, oXf_call, oXt_prim, oXf_prim, oXt_isi, oXf_isi, oXt_comp, oXf_comp, oXt_app, oXf_app, oXt_ext, oXf_ext, oXt_pop, oXf_pop, oXf_var, oXt_var, oX_lend, eX_var, eX_non, eX_bl, eX_int, eX_str, eX_glb, eX_bin, eX_neg, eX_not, eX_cmp, eX_chain, eX_and, eX_or, eX_ife, eX_sub, eX_slc, eX_rev, eX_tup, eX_lst, eX_call, eX_prim, eX_isi, eX_comp, eX_app, eX_ext, eX_pop, eP_nil, eP_cons, eL_nil, eL_cons, eI_rng1, eI_rng2, eI_cons, eS_nil, eS_cons, eS_set, eS_unp, eS_sti, eS_ex, eS_ifs, eS_whl, eS_fors, eS_brk, eS_cnt, eS_pas, eS_retv, eS_ret_non, eS_ret_bl, eS_ret_int, eS_ret_str, eS_ret_glb, eS_ret_bin, eS_ret_neg, eS_ret_not, eS_ret_cmp, eS_ret_chain, eS_ret_and, eS_ret_or, eS_ret_ife, eS_ret_sub, eS_ret_slc, eS_ret_rev, eS_ret_tup, eS_ret_lst, eS_ret_call, eS_ret_prim, eS_ret_isi, eS_ret_comp, eS_ret_app, eS_ret_ext, eS_ret_pop, lpS_nil, lpS_cons, cmS_nil, cmS_cons, rdO, rdS, rdAll, frz, valsOf, argsOf, slotsOf, putBack, slD, prD, seqD, asg, asgs, bopD, copD, eqD, truS, List.mapIdx_cons, List.mapIdx_nil, List.getElem?_cons_zero, List.getElem?_cons_succ, List.set_cons_zero, List.set_cons_succ, List.length_cons, List.length_nil, List.cons_append, List.nil_append, List.replicate_zero, List.replicate_succ, List.append_nil, List.nodup_nil, List.nodup_cons, List.not_mem_nil, Nat.sub_self, Nat.add_one_sub_one, Nat.zero_lt_succ, if_true, if_false, eq_self_iff_true, reduceIte, reduceCtorEq, Nat.zero_le, slv, not_false_eq_true, and_self, and_true, true_and, List.singleton_append, Bool.not_true, Bool.not_false, List.foldl_nil, ite_true, ite_false, beq_self_eq_true, Nat.reduceAdd, Nat.reduceLT, Nat.reduceLeDiff, Nat.reduceSub, Nat.reduceEqDiff, Nat.reduceMul, Int.reduceAdd, Int.reduceLT, Int.reduceLE, Int.reduceNeg, Int.reduceEq, Int.reduceSub, decide_true, decide_false, decide_eq_true_eq, cond_true, cond_false, Int.reducePow, s0, s1, s2, s3, s4, num_len, e1, l1, tl]
end Lw

set_option Elab.async false
set_option linter.all false
set_option maxRecDepth 100000
set_option maxHeartbeats 2000000
namespace Lw
open PySem PySem.Spec PyProof.Rows L2 Dv
def S (n : Nat) : Str := Str.ofString (toString (n : Int))
def aN (n : Nat) : PD := .tuple [.str "name", .str ("a" ++ S n)]
def eN (n : Nat) : PD := .tuple [.str "number", .int (n : Int)]
def tN (n : Nat) : PD := .tuple [.str "name", .str ("t" ++ S n)]
def menuN (n : Nat) : List (Str × List PD) := [("set", [aN n, eN n]), ("tell", [.str "word", .tuple [eN n, aN n]]), ("do", [.str ("d" ++ S n), .tuple [eN n]]), ("hold", [eN n]), ("sleep", []), ("wake", [aN n, .none]), ("wake", [aN n, eN n]), ("stop", [aN n]), ("seize", [.str ("s" ++ S n), eN n]), ("free", [.str ("s" ++ S n), eN n]), ("wait", [.str ("g" ++ S n)]), ("open", [.str ("g" ++ S n)]), ("shut", [.str ("g" ++ S n)]), ("put", [.str ("l" ++ S n), eN n]), ("take", [aN n, .str ("l" ++ S n)]), ("make", [aN n, .str ("c" ++ S n), .tuple [eN n, eN n]]), ("leave", [])]
theorem cps_app (x y : Str) : (x ++ y).cps = x.cps ++ y.cps := rfl
theorem S_cps {n : Nat} {c : Nat} (h : c ∈ (S n).cps.toList) : c ≤ 57 := by
  by_cases z : c ≤ 57
  · exact z
  · exact absurd h (int_text_free' c ⟨by omega, by omega⟩ (n : Int))
theorem S_len2 {n : Nat} (h : n < 100) : (S n).length ≤ 2 := PyProof.Rows.toString_length_le (by omega) (by decide) (by omega)
theorem xs_cps {x : Str} {n : Nat} (hx : ∀ c ∈ x.cps.toList, c < 200) : ∀ c ∈ (x ++ S n).cps.toList, c < 200 := by
  intro c hc
  rw [cps_app, Array.toList_append] at hc
  rcases List.mem_append.mp hc with z | z
  · exact hx c z
  · have := S_cps z; omega
theorem xs_ok {x : Str} {n : Nat} (hx : ∀ c ∈ x.cps.toList, c < 200) : PyData.strOk (x ++ S n) = true := by
  unfold PyData.strOk
  rw [← Array.all_toList, List.all_eq_true]
  intro c hc
  have := xs_cps hx c hc
  exact decide_eq_true (by omega)
theorem xs_tx {x : Str} {n : Nat} (h : n < 100) (hx : ∀ c ∈ x.cps.toList, c < 200) (hl : x.length = 1) : (PyData.str (x ++ S n)).shown.length ≤ 32 := by
  have l := S_len2 h
  have z := StrLaws.reprText_len (x ++ S n) fun c hc => by have := xs_cps hx c hc; omega
  have q : (x ++ S n).length = x.length + (S n).length := strLen_append ..
  simp only [PyData.shown]
  omega
theorem int_tx2 {n : Nat} (h : n < 100) : (PyData.int (n : Int)).shown.length ≤ 2 := by
  simp only [PyData.shown]
  exact PyProof.Rows.toString_length_le (by omega) (by decide) (by omega)
theorem tx_none : PyData.none.shown.length = 4 := by decide +kernel
theorem lt_set : (PyData.str "set").shown.length = 5 := by decide +kernel
theorem lk_set : PyData.strOk ("set" : Str) = true := by decide +kernel
theorem lt_tell : (PyData.str "tell").shown.length = 6 := by decide +kernel
theorem lk_tell : PyData.strOk ("tell" : Str) = true := by decide +kernel
theorem lt_word : (PyData.str "word").shown.length = 6 := by decide +kernel
theorem lk_word : PyData.strOk ("word" : Str) = true := by decide +kernel
theorem lt_do : (PyData.str "do").shown.length = 4 := by decide +kernel
theorem lk_do : PyData.strOk ("do" : Str) = true := by decide +kernel
theorem lt_hold : (PyData.str "hold").shown.length = 6 := by decide +kernel
theorem lk_hold : PyData.strOk ("hold" : Str) = true := by decide +kernel
theorem lt_sleep : (PyData.str "sleep").shown.length = 7 := by decide +kernel
theorem lk_sleep : PyData.strOk ("sleep" : Str) = true := by decide +kernel
theorem lt_wake : (PyData.str "wake").shown.length = 6 := by decide +kernel
theorem lk_wake : PyData.strOk ("wake" : Str) = true := by decide +kernel
theorem lt_stop : (PyData.str "stop").shown.length = 6 := by decide +kernel
theorem lk_stop : PyData.strOk ("stop" : Str) = true := by decide +kernel
theorem lt_seize : (PyData.str "seize").shown.length = 7 := by decide +kernel
theorem lk_seize : PyData.strOk ("seize" : Str) = true := by decide +kernel
theorem lt_free : (PyData.str "free").shown.length = 6 := by decide +kernel
theorem lk_free : PyData.strOk ("free" : Str) = true := by decide +kernel
theorem lt_wait : (PyData.str "wait").shown.length = 6 := by decide +kernel
theorem lk_wait : PyData.strOk ("wait" : Str) = true := by decide +kernel
theorem lt_open : (PyData.str "open").shown.length = 6 := by decide +kernel
theorem lk_open : PyData.strOk ("open" : Str) = true := by decide +kernel
theorem lt_shut : (PyData.str "shut").shown.length = 6 := by decide +kernel
theorem lk_shut : PyData.strOk ("shut" : Str) = true := by decide +kernel
theorem lt_put : (PyData.str "put").shown.length = 5 := by decide +kernel
theorem lk_put : PyData.strOk ("put" : Str) = true := by decide +kernel
theorem lt_take : (PyData.str "take").shown.length = 6 := by decide +kernel
theorem lk_take : PyData.strOk ("take" : Str) = true := by decide +kernel
theorem lt_make : (PyData.str "make").shown.length = 6 := by decide +kernel
theorem lk_make : PyData.strOk ("make" : Str) = true := by decide +kernel
theorem lt_leave : (PyData.str "leave").shown.length = 7 := by decide +kernel
theorem lk_leave : PyData.strOk ("leave" : Str) = true := by decide +kernel
theorem lt_name : (PyData.str "name").shown.length = 6 := by decide +kernel
theorem lk_name : PyData.strOk ("name" : Str) = true := by decide +kernel
theorem lt_number : (PyData.str "number").shown.length = 8 := by decide +kernel
theorem lk_number : PyData.strOk ("number" : Str) = true := by decide +kernel
theorem x_a : ∀ c ∈ ("a" : Str).cps.toList, c < 200 := by decide +kernel
theorem x_d : ∀ c ∈ ("d" : Str).cps.toList, c < 200 := by decide +kernel
theorem x_s : ∀ c ∈ ("s" : Str).cps.toList, c < 200 := by decide +kernel
theorem x_g : ∀ c ∈ ("g" : Str).cps.toList, c < 200 := by decide +kernel
theorem x_l : ∀ c ∈ ("l" : Str).cps.toList, c < 200 := by decide +kernel
theorem x_c : ∀ c ∈ ("c" : Str).cps.toList, c < 200 := by decide +kernel
theorem x_t : ∀ c ∈ ("t" : Str).cps.toList, c < 200 := by decide +kernel
theorem eN_all {n : Nat} (h : n < 100) : (eN n).shown.length ≤ 17 ∧ (eN n).canLay0 = true ∧ (eN n).depth = 1 ∧ (eN n).showable = true := by
  have t := tx_tuple [.str "number", .int (n : Int)]
  have i := int_tx2 h
  have s := int_sh (n := n) (by omega)
  simp only [txA, lt_number] at t
  refine ⟨by unfold eN; omega, by simp only [eN, PyData.canLay0, PyData.canLayAll0, lk_number, Bool.and_self], by simp only [eN, PyData.depth, PyData.depthAll]; decide, by simp only [PyData.showable] at s; simp only [eN, PyData.showable, PyData.showableAll, s, Bool.and_self]⟩
theorem nm_all {x : Str} {n : Nat} (h : n < 100) (hx : ∀ c ∈ x.cps.toList, c < 200) (hl : x.length = 1) : (PyData.tuple [.str "name", .str (x ++ S n)]).shown.length ≤ 45 ∧ (PyData.tuple [.str "name", .str (x ++ S n)]).canLay0 = true ∧ (PyData.tuple [.str "name", .str (x ++ S n)]).depth = 1 ∧ (PyData.tuple [.str "name", .str (x ++ S n)]).showable = true := by
  have t := tx_tuple [.str "name", .str (x ++ S n)]
  have i := xs_tx h hx hl
  have s := xs_ok (n := n) hx
  simp only [txA, lt_name] at t
  refine ⟨by omega, by simp only [PyData.canLay0, PyData.canLayAll0, lk_name, s, Bool.and_self], by simp only [PyData.depth, PyData.depthAll]; decide, by simp only [PyData.showable, PyData.showableAll, Bool.and_self]⟩
theorem aN_all {n : Nat} (h : n < 100) : (aN n).shown.length ≤ 45 ∧ (aN n).canLay0 = true ∧ (aN n).depth = 1 ∧ (aN n).showable = true := nm_all h x_a rfl
theorem tN_ok {n : Nat} (h : n < 100) : okT (tN n) = true := by
  have q : (tN n).shown.length ≤ 45 ∧ (tN n).canLay0 = true ∧ (tN n).depth = 1 ∧ (tN n).showable = true := nm_all h x_t rfl
  simp only [okT, Bool.and_eq_true, decide_eq_true_eq]
  exact ⟨⟨⟨q.2.1, by omega⟩, q.2.2.2⟩, by omega⟩
theorem m_0 {n : Nat} (h : n < 100) : okS "set" [aN n, eN n] = true := by
  have a := aN_all h
  have e := eN_all h
  have t := tx_tuple (.str "set" :: [aN n, eN n])
  simp only [txA, lt_set] at t 
  simp only [okS, Bool.and_eq_true, decide_eq_true_eq]
  refine ⟨⟨⟨⟨by decide +kernel, by simp only [PyData.canLay0, PyData.canLayAll0, lk_set, a.2.1, e.2.1, Bool.and_self]⟩, by simp only [PyData.depth, PyData.depthAll, a.2.2.1, e.2.2.1]; decide⟩, by simp only [PyData.showable, PyData.showableAll, a.2.2.2, e.2.2.2, Bool.and_self]⟩, by omega⟩
theorem m_1 {n : Nat} (h : n < 100) : okS "tell" [.str "word", .tuple [eN n, aN n]] = true := by
  have a := aN_all h
  have e := eN_all h
  have t := tx_tuple (.str "tell" :: [.str "word", .tuple [eN n, aN n]])
  have u0 := tx_tuple [eN n, aN n]
  simp only [txA, lt_tell, lt_word] at t u0
  simp only [okS, Bool.and_eq_true, decide_eq_true_eq]
  refine ⟨⟨⟨⟨by decide +kernel, by simp only [PyData.canLay0, PyData.canLayAll0, lk_tell, lk_word, a.2.1, e.2.1, Bool.and_self]⟩, by simp only [PyData.depth, PyData.depthAll, a.2.2.1, e.2.2.1]; decide⟩, by simp only [PyData.showable, PyData.showableAll, a.2.2.2, e.2.2.2, Bool.and_self]⟩, by omega⟩
theorem m_2 {n : Nat} (h : n < 100) : okS "do" [.str ("d" ++ S n), .tuple [eN n]] = true := by
  have a := aN_all h
  have e := eN_all h
  have t := tx_tuple (.str "do" :: [.str ("d" ++ S n), .tuple [eN n]])
  have u0 := tx_tuple [eN n]
  have y := xs_tx h x_d rfl
  have z := xs_ok (n := n) x_d
  simp only [txA, lt_do] at t u0
  simp only [okS, Bool.and_eq_true, decide_eq_true_eq]
  refine ⟨⟨⟨⟨by decide +kernel, by simp only [PyData.canLay0, PyData.canLayAll0, lk_do, z, a.2.1, e.2.1, Bool.and_self]⟩, by simp only [PyData.depth, PyData.depthAll, a.2.2.1, e.2.2.1]; decide⟩, by simp only [PyData.showable, PyData.showableAll, a.2.2.2, e.2.2.2, Bool.and_self]⟩, by omega⟩
theorem m_3 {n : Nat} (h : n < 100) : okS "hold" [eN n] = true := by
  have a := aN_all h
  have e := eN_all h
  have t := tx_tuple (.str "hold" :: [eN n])
  simp only [txA, lt_hold] at t 
  simp only [okS, Bool.and_eq_true, decide_eq_true_eq]
  refine ⟨⟨⟨⟨by decide +kernel, by simp only [PyData.canLay0, PyData.canLayAll0, lk_hold, a.2.1, e.2.1, Bool.and_self]⟩, by simp only [PyData.depth, PyData.depthAll, a.2.2.1, e.2.2.1]; decide⟩, by simp only [PyData.showable, PyData.showableAll, a.2.2.2, e.2.2.2, Bool.and_self]⟩, by omega⟩
theorem m_4 {n : Nat} (h : n < 100) : okS "sleep" [] = true := by
  have a := aN_all h
  have e := eN_all h
  have t := tx_tuple (.str "sleep" :: [])
  simp only [txA, lt_sleep] at t 
  simp only [okS, Bool.and_eq_true, decide_eq_true_eq]
  refine ⟨⟨⟨⟨by decide +kernel, by simp only [PyData.canLay0, PyData.canLayAll0, lk_sleep, a.2.1, e.2.1, Bool.and_self]⟩, by simp only [PyData.depth, PyData.depthAll, a.2.2.1, e.2.2.1]; decide⟩, by simp only [PyData.showable, PyData.showableAll, a.2.2.2, e.2.2.2, Bool.and_self]⟩, by omega⟩
theorem m_5 {n : Nat} (h : n < 100) : okS "wake" [aN n, .none] = true := by
  have a := aN_all h
  have e := eN_all h
  have t := tx_tuple (.str "wake" :: [aN n, .none])
  simp only [txA, lt_wake, tx_none] at t 
  simp only [okS, Bool.and_eq_true, decide_eq_true_eq]
  refine ⟨⟨⟨⟨by decide +kernel, by simp only [PyData.canLay0, PyData.canLayAll0, lk_wake, a.2.1, e.2.1, Bool.and_self]⟩, by simp only [PyData.depth, PyData.depthAll, a.2.2.1, e.2.2.1]; decide⟩, by simp only [PyData.showable, PyData.showableAll, a.2.2.2, e.2.2.2, Bool.and_self]⟩, by omega⟩
theorem m_6 {n : Nat} (h : n < 100) : okS "wake" [aN n, eN n] = true := by
  have a := aN_all h
  have e := eN_all h
  have t := tx_tuple (.str "wake" :: [aN n, eN n])
  simp only [txA, lt_wake] at t 
  simp only [okS, Bool.and_eq_true, decide_eq_true_eq]
  refine ⟨⟨⟨⟨by decide +kernel, by simp only [PyData.canLay0, PyData.canLayAll0, lk_wake, a.2.1, e.2.1, Bool.and_self]⟩, by simp only [PyData.depth, PyData.depthAll, a.2.2.1, e.2.2.1]; decide⟩, by simp only [PyData.showable, PyData.showableAll, a.2.2.2, e.2.2.2, Bool.and_self]⟩, by omega⟩
theorem m_7 {n : Nat} (h : n < 100) : okS "stop" [aN n] = true := by
  have a := aN_all h
  have e := eN_all h
  have t := tx_tuple (.str "stop" :: [aN n])
  simp only [txA, lt_stop] at t 
  simp only [okS, Bool.and_eq_true, decide_eq_true_eq]
  refine ⟨⟨⟨⟨by decide +kernel, by simp only [PyData.canLay0, PyData.canLayAll0, lk_stop, a.2.1, e.2.1, Bool.and_self]⟩, by simp only [PyData.depth, PyData.depthAll, a.2.2.1, e.2.2.1]; decide⟩, by simp only [PyData.showable, PyData.showableAll, a.2.2.2, e.2.2.2, Bool.and_self]⟩, by omega⟩
theorem m_8 {n : Nat} (h : n < 100) : okS "seize" [.str ("s" ++ S n), eN n] = true := by
  have a := aN_all h
  have e := eN_all h
  have t := tx_tuple (.str "seize" :: [.str ("s" ++ S n), eN n])
  have y := xs_tx h x_s rfl
  have z := xs_ok (n := n) x_s
  simp only [txA, lt_seize] at t 
  simp only [okS, Bool.and_eq_true, decide_eq_true_eq]
  refine ⟨⟨⟨⟨by decide +kernel, by simp only [PyData.canLay0, PyData.canLayAll0, lk_seize, z, a.2.1, e.2.1, Bool.and_self]⟩, by simp only [PyData.depth, PyData.depthAll, a.2.2.1, e.2.2.1]; decide⟩, by simp only [PyData.showable, PyData.showableAll, a.2.2.2, e.2.2.2, Bool.and_self]⟩, by omega⟩
theorem m_9 {n : Nat} (h : n < 100) : okS "free" [.str ("s" ++ S n), eN n] = true := by
  have a := aN_all h
  have e := eN_all h
  have t := tx_tuple (.str "free" :: [.str ("s" ++ S n), eN n])
  have y := xs_tx h x_s rfl
  have z := xs_ok (n := n) x_s
  simp only [txA, lt_free] at t 
  simp only [okS, Bool.and_eq_true, decide_eq_true_eq]
  refine ⟨⟨⟨⟨by decide +kernel, by simp only [PyData.canLay0, PyData.canLayAll0, lk_free, z, a.2.1, e.2.1, Bool.and_self]⟩, by simp only [PyData.depth, PyData.depthAll, a.2.2.1, e.2.2.1]; decide⟩, by simp only [PyData.showable, PyData.showableAll, a.2.2.2, e.2.2.2, Bool.and_self]⟩, by omega⟩
theorem m_10 {n : Nat} (h : n < 100) : okS "wait" [.str ("g" ++ S n)] = true := by
  have a := aN_all h
  have e := eN_all h
  have t := tx_tuple (.str "wait" :: [.str ("g" ++ S n)])
  have y := xs_tx h x_g rfl
  have z := xs_ok (n := n) x_g
  simp only [txA, lt_wait] at t 
  simp only [okS, Bool.and_eq_true, decide_eq_true_eq]
  refine ⟨⟨⟨⟨by decide +kernel, by simp only [PyData.canLay0, PyData.canLayAll0, lk_wait, z, a.2.1, e.2.1, Bool.and_self]⟩, by simp only [PyData.depth, PyData.depthAll, a.2.2.1, e.2.2.1]; decide⟩, by simp only [PyData.showable, PyData.showableAll, a.2.2.2, e.2.2.2, Bool.and_self]⟩, by omega⟩
theorem m_11 {n : Nat} (h : n < 100) : okS "open" [.str ("g" ++ S n)] = true := by
  have a := aN_all h
  have e := eN_all h
  have t := tx_tuple (.str "open" :: [.str ("g" ++ S n)])
  have y := xs_tx h x_g rfl
  have z := xs_ok (n := n) x_g
  simp only [txA, lt_open] at t 
  simp only [okS, Bool.and_eq_true, decide_eq_true_eq]
  refine ⟨⟨⟨⟨by decide +kernel, by simp only [PyData.canLay0, PyData.canLayAll0, lk_open, z, a.2.1, e.2.1, Bool.and_self]⟩, by simp only [PyData.depth, PyData.depthAll, a.2.2.1, e.2.2.1]; decide⟩, by simp only [PyData.showable, PyData.showableAll, a.2.2.2, e.2.2.2, Bool.and_self]⟩, by omega⟩
theorem m_12 {n : Nat} (h : n < 100) : okS "shut" [.str ("g" ++ S n)] = true := by
  have a := aN_all h
  have e := eN_all h
  have t := tx_tuple (.str "shut" :: [.str ("g" ++ S n)])
  have y := xs_tx h x_g rfl
  have z := xs_ok (n := n) x_g
  simp only [txA, lt_shut] at t 
  simp only [okS, Bool.and_eq_true, decide_eq_true_eq]
  refine ⟨⟨⟨⟨by decide +kernel, by simp only [PyData.canLay0, PyData.canLayAll0, lk_shut, z, a.2.1, e.2.1, Bool.and_self]⟩, by simp only [PyData.depth, PyData.depthAll, a.2.2.1, e.2.2.1]; decide⟩, by simp only [PyData.showable, PyData.showableAll, a.2.2.2, e.2.2.2, Bool.and_self]⟩, by omega⟩
theorem m_13 {n : Nat} (h : n < 100) : okS "put" [.str ("l" ++ S n), eN n] = true := by
  have a := aN_all h
  have e := eN_all h
  have t := tx_tuple (.str "put" :: [.str ("l" ++ S n), eN n])
  have y := xs_tx h x_l rfl
  have z := xs_ok (n := n) x_l
  simp only [txA, lt_put] at t 
  simp only [okS, Bool.and_eq_true, decide_eq_true_eq]
  refine ⟨⟨⟨⟨by decide +kernel, by simp only [PyData.canLay0, PyData.canLayAll0, lk_put, z, a.2.1, e.2.1, Bool.and_self]⟩, by simp only [PyData.depth, PyData.depthAll, a.2.2.1, e.2.2.1]; decide⟩, by simp only [PyData.showable, PyData.showableAll, a.2.2.2, e.2.2.2, Bool.and_self]⟩, by omega⟩
theorem m_14 {n : Nat} (h : n < 100) : okS "take" [aN n, .str ("l" ++ S n)] = true := by
  have a := aN_all h
  have e := eN_all h
  have t := tx_tuple (.str "take" :: [aN n, .str ("l" ++ S n)])
  have y := xs_tx h x_l rfl
  have z := xs_ok (n := n) x_l
  simp only [txA, lt_take] at t 
  simp only [okS, Bool.and_eq_true, decide_eq_true_eq]
  refine ⟨⟨⟨⟨by decide +kernel, by simp only [PyData.canLay0, PyData.canLayAll0, lk_take, z, a.2.1, e.2.1, Bool.and_self]⟩, by simp only [PyData.depth, PyData.depthAll, a.2.2.1, e.2.2.1]; decide⟩, by simp only [PyData.showable, PyData.showableAll, a.2.2.2, e.2.2.2, Bool.and_self]⟩, by omega⟩
theorem m_15 {n : Nat} (h : n < 100) : okS "make" [aN n, .str ("c" ++ S n), .tuple [eN n, eN n]] = true := by
  have a := aN_all h
  have e := eN_all h
  have t := tx_tuple (.str "make" :: [aN n, .str ("c" ++ S n), .tuple [eN n, eN n]])
  have u0 := tx_tuple [eN n, eN n]
  have y := xs_tx h x_c rfl
  have z := xs_ok (n := n) x_c
  simp only [txA, lt_make] at t u0
  simp only [okS, Bool.and_eq_true, decide_eq_true_eq]
  refine ⟨⟨⟨⟨by decide +kernel, by simp only [PyData.canLay0, PyData.canLayAll0, lk_make, z, a.2.1, e.2.1, Bool.and_self]⟩, by simp only [PyData.depth, PyData.depthAll, a.2.2.1, e.2.2.1]; decide⟩, by simp only [PyData.showable, PyData.showableAll, a.2.2.2, e.2.2.2, Bool.and_self]⟩, by omega⟩
theorem m_16 {n : Nat} (h : n < 100) : okS "leave" [] = true := by
  have a := aN_all h
  have e := eN_all h
  have t := tx_tuple (.str "leave" :: [])
  simp only [txA, lt_leave] at t 
  simp only [okS, Bool.and_eq_true, decide_eq_true_eq]
  refine ⟨⟨⟨⟨by decide +kernel, by simp only [PyData.canLay0, PyData.canLayAll0, lk_leave, a.2.1, e.2.1, Bool.and_self]⟩, by simp only [PyData.depth, PyData.depthAll, a.2.2.1, e.2.2.1]; decide⟩, by simp only [PyData.showable, PyData.showableAll, a.2.2.2, e.2.2.2, Bool.and_self]⟩, by omega⟩
theorem menu_ok {n : Nat} (h : n < 100) : ∀ p ∈ menuN n, okS p.1 p.2 = true := by
  intro p hp
  simp only [menuN, List.mem_cons, List.not_mem_nil, or_false] at hp
  rcases hp with rfl | rfl | rfl | rfl | rfl | rfl | rfl | rfl | rfl | rfl | rfl | rfl | rfl | rfl | rfl | rfl | rfl
  · exact m_0 h
  · exact m_1 h
  · exact m_2 h
  · exact m_3 h
  · exact m_4 h
  · exact m_5 h
  · exact m_6 h
  · exact m_7 h
  · exact m_8 h
  · exact m_9 h
  · exact m_10 h
  · exact m_11 h
  · exact m_12 h
  · exact m_13 h
  · exact m_14 h
  · exact m_15 h
  · exact m_16 h
def mk (p : Str × List PD) : PD := .tuple (.str p.1 :: p.2)
theorem S_len {n : Nat} (h : n ≤ 100000) : (S n).length ≤ 10 := PyProof.Rows.toString_length_le (by omega) (by decide) (by omega)
theorem catS {n : Nat} (h : n ≤ 100000) (x : Str) (hx : x.length ≤ 10) : bopD .add (.str x) (.str (S n)) = some (.val (.str (x ++ S n))) := by
  have l := S_len h
  have q : x.length + (S n).length ≤ sizeLine := by rw [slv]; omega
  simp only [bopD, q, if_true]
theorem prS {n : Nat} (h : n ≤ 100000) : prD .str [.int (n : Int)] = some (.val (.str (S n))) := by
  have q : (n : Int).natAbs.log2 < 1920 := log_small (by rw [Int.natAbs_natCast]; omega)
  simp only [prD, q, if_true]
  rfl
theorem simple_ok {K : Nat} (hK : 1 ≤ K) (d n : Nat) (hn : n < 70) : ∃ (h : Str) (xs : List PD), okS h xs = true ∧ fnK rs gl0 K 19 [.val (.int (d : Int)), .val (.int (n : Int))] = some (.val (.tuple (.str h :: xs)), [.un, .un]) := by
  obtain ⟨k, rfl⟩ : ∃ k, K = k + 1 := ⟨K - 1, by omega⟩
  have hm : bopD .mod (.int (d : Int)) (.int 17) = some (.val (.int ((d % 17 : Nat) : Int))) := by
    simp only [bopD, Int.reduceLT, if_true]
    rfl
  have hl : d % 17 < (menuN n).length := Nat.mod_lt _ (by decide)
  obtain ⟨p, hp⟩ : ∃ p, (menuN n)[d % 17]? = some p := ⟨_, List.getElem?_eq_getElem hl⟩
  have ok := menu_ok (n := n) (by omega) p (List.mem_of_getElem? hp)
  have hx : atI ((menuN n).map mk) ((d % 17 : Nat) : Int) = some (mk p) := atN (by rw [List.getElem?_map, hp]; rfl)
  refine ⟨p.1, p.2, ok, ?_⟩
  have c1 := catS (n := n) (by omega) "a" (by decide)
  have c2 := catS (n := n) (by omega) "d" (by decide)
  have c3 := catS (n := n) (by omega) "s" (by decide)
  have c4 := catS (n := n) (by omega) "g" (by decide)
  have c5 := catS (n := n) (by omega) "l" (by decide)
  have c6 := catS (n := n) (by omega) "c" (by decide)
  have s := prS (n := n) (by omega)
  simp only [menuN, aN, eN, List.map_cons, List.map_nil, mk] at hx
  rw [run19]
  simp only [runF, tagA, outsA, oXt_non, oXf_non, oXt_bl, oXf_bl, oXt_int, oXf_int, oXt_str, oXf_str, oXt_glb, oXf_glb, oXt_bin, oXf_bin, oXt_neg, oXf_neg, oXt_not, oXf_not, oXt_cmp, oXf_cmp, oXt_chain, oXf_chain, oXt_and, oXf_and, oXt_or, oXf_or, oXt_ife, oXf_ife, oXt_sub, oXf_sub, oXt_slc, oXf_slc, oXt_rev, oXf_rev, oXt_tup, oXf_tup, oXt_lst, oXf_lst, oXt_call, oXf_call, oXt_prim, oXf_prim, oXt_isi, oXf_isi, oXt_comp, oXf_comp, oXt_app, oXf_app, oXt_ext, oXf_ext, oXt_pop, oXf_pop, oXf_var, oXt_var, oX_lend, eX_var, eX_non, eX_bl, eX_int, eX_str, eX_glb, eX_bin, eX_neg, eX_not, eX_cmp, eX_chain, eX_and, eX_or, eX_ife, eX_sub, eX_slc, eX_rev, eX_tup, eX_lst, eX_call, eX_prim, eX_isi, eX_comp, eX_app, eX_ext, eX_pop, eP_nil, eP_cons, eL_nil, eL_cons, eI_rng1, eI_rng2, eI_cons, eS_nil, eS_cons, eS_set, eS_unp, eS_sti, eS_ex, eS_ifs, eS_whl, eS_fors, eS_brk, eS_cnt, eS_pas, eS_retv, eS_ret_non, eS_ret_bl, eS_ret_int, eS_ret_str, eS_ret_glb, eS_ret_bin, eS_ret_neg, eS_ret_not, eS_ret_cmp, eS_ret_chain, eS_ret_and, eS_ret_or, eS_ret_ife, eS_ret_sub, eS_ret_slc, eS_ret_rev, eS_ret_tup, eS_ret_lst, eS_ret_call, eS_ret_prim, eS_ret_isi, eS_ret_comp, eS_ret_app, eS_ret_ext, eS_ret_pop, lpS_nil, lpS_cons, cmS_nil, cmS_cons, rdO, rdS, rdAll, frz, valsOf, argsOf, slotsOf, putBack, subD, slD, seqD, asg, asgs, copD, eqD, truS, List.mapIdx_cons, List.mapIdx_nil, List.getElem?_cons_zero, List.getElem?_cons_succ, List.set_cons_zero, List.set_cons_succ, List.length_cons, List.length_nil, List.cons_append, List.nil_append, List.replicate_zero, List.replicate_succ, List.append_nil, List.nodup_nil, List.nodup_cons, List.not_mem_nil, Nat.sub_self, Nat.add_one_sub_one, Nat.zero_lt_succ, if_true, if_false, eq_self_iff_true, reduceIte, reduceCtorEq, Nat.zero_le, slv, not_false_eq_true, and_self, and_true, true_and, List.singleton_append, Bool.not_true, Bool.not_false, List.foldl_nil, ite_true, ite_false, beq_self_eq_true, Nat.reduceAdd, Nat.reduceLT, Nat.reduceLeDiff, Nat.reduceSub, Nat.reduceEqDiff, Nat.reduceMul, Int.reduceAdd, Int.reduceLT, Int.reduceLE, Int.reduceNeg, Int.reduceEq, Int.reduceSub, decide_true, decide_false, decide_eq_true_eq, cond_true, cond_false, Int.reducePow, prI, c1, c2, c3, c4, c5, c6, s, hm, hx]
end Lw

set_option Elab.async false
set_option linter.all false
set_option maxRecDepth 100000
set_option maxHeartbeats 2000000
namespace Lw
open PySem PySem.Spec PyProof.Rows L2 Dv
theorem run20 (k : Nat) (as : DEn) : fnK rs gl0 (k + 1) 20 as = runF ⟨fnK rs gl0 k, gl0⟩ 5 7 ir__law_step as := rfl
def prO (o a : Blk) : PD := .list [pc a, pc (fillB a o)]
def hp (o : Blk) (R : List Blk) : List PD := R.reverse.map (prO o)
theorem hp_nil (o : Blk) : hp o [] = [] := rfl
theorem hp_cons (o a : Blk) (R : List Blk) : hp o (a :: R) = hp o R ++ [prO o a] := by
  unfold hp
  rw [List.reverse_cons, List.map_append]
  rfl
theorem hp_len (o : Blk) (R : List Blk) : (hp o R).length = R.length := by
  unfold hp
  rw [List.length_map, List.length_reverse]
def stepLow (kind : Nat) (t : PD) (l top : Blk) (D : Nat) : List Blk → List Blk
  | [] => [.ife t l top .nil]
  | below :: R' => if kind < 7 ∨ D ≤ dep below then app below top :: R' else .ife t below top .nil :: R'
def stepTop (kind : Nat) (t : PD) (l top : Blk) (D : Nat) (R : List Blk) : List Blk :=
  if kind = 0 ∨ 8 < kind then l :: top :: R
  else if kind = 1 then .nil :: top :: R
  else if kind = 2 ∨ D ≤ dep top then app top l :: R
  else if kind = 3 then .ife t top .nil .nil :: R
  else if kind = 4 then .whl t top .nil :: R
  else stepLow kind t l top D R
def stepR (kind : Nat) (t : PD) (l : Blk) (D : Nat) : List Blk → List Blk
  | [] => []
  | top :: R => stepTop kind t l top D R
theorem lastL {α : Type} (X : List α) (y : α) : (X ++ [y])[(X ++ [y]).length - 1]? = some y := by
  simp
theorem dropL {α : Type} (X : List α) (y : α) : (X ++ [y]).dropLast = X := by simp
theorem pr0 (o a : Blk) : subD (prO o a) (.int 0) = some (pc a) := rfl
theorem pr1 (o a : Blk) : subD (prO o a) (.int 1) = some (pc (fillB a o)) := rfl
theorem pc_fold (b : Blk) : PyData.list (pcl b) = pc b := rfl
theorem pO_nil (o : Blk) : prO o .nil = .list [pc .nil, pc .nil] := rfl
theorem pO_app (o a b : Blk) : prO o (app a b) = .list [pc (app a b), pc (app (fillB a o) (fillB b o))] := by rw [prO, fill_app]
theorem pO_if (o : Blk) (t : PD) (a b : Blk) : prO o (.ife t a b .nil) = .list [pc (.ife t a b .nil), pc (.ife t (fillB a o) (fillB b o) .nil)] := rfl
theorem pO_if1 (o : Blk) (t : PD) (a : Blk) : prO o (.ife t a .nil .nil) = .list [pc (.ife t a .nil .nil), pc (.ife t (fillB a o) .nil .nil)] := rfl
theorem pO_wh (o : Blk) (t : PD) (a : Blk) : prO o (.whl t a .nil) = .list [pc (.whl t a .nil), pc (.whl t (fillB a o) .nil)] := rfl
def sm (o a : Blk) : Prop := wt a ≤ 10000 ∧ wt (fillB a o) ≤ 10000
theorem beqF {i j : Int} (h : i ≠ j) : (i == j) = false := by simpa using h
theorem beqT {i j : Int} (h : i = j) : (i == j) = true := by simpa using h
theorem step_ok {K : Nat} (hK : 3 ≤ K) (o l top : Blk) (R : List Blk) (kind D : Nat) (t : PD) (hl : sm o l) (ht : sm o top) (hR : ∀ a ∈ R, sm o a) (hn : R.length ≤ 1000) :
    fnK rs gl0 K 20 [.own none (hp o (top :: R)), .val (.int (kind : Int)), .val t, .val (prO o l), .val (.int (D : Int))] = some (.val .none, [.own none (hp o (stepR kind t l D (top :: R))), .un, .un, .un, .un]) := by
  obtain ⟨k, rfl⟩ : ∃ k, K = k + 1 := ⟨K - 1, by omega⟩
  have hk : 2 ≤ k := by omega
  rw [run20, hp_cons]
  have lX : (hp o R).length < 16777216 := by rw [hp_len]; omega
  have lX2 : (hp o R ++ [prO o top]).length < 16777216 := by rw [List.length_append, hp_len]; simp only [List.length_cons, List.length_nil]; omega
  have wn : wt .nil ≤ 10000 := by simp only [wt]; omega
  have nn := none_ok (K := k) (by omega)
  by_cases c0 : kind = 0
  · have e0 : ((kind : Int) == 0) = true := beqT (by omega)
    have q : stepR kind t l D (top :: R) = l :: top :: R := by rw [stepR, stepTop, if_pos (.inl c0)]
    rw [q, hp_cons, hp_cons]
    generalize hp o R = X at *
    generalize prO o top = P at *
    generalize prO o l = Q at *
    simp only [runF, tagA, outsA, oXt_non, oXf_non, oXt_bl, oXf_bl, oXt_int, oXf_int, oXt_str, oXf_str, oXt_glb, oXf_glb, oXt_bin, oXf_bin, oXt_neg, oXf_neg, oXt_not, oXf_not, oXt_cmp, oXf_cmp, oXt_chain, oXf_chain, oXt_and, oXf_and, oXt_or, oXf_or, oXt_ife, oXf_ife, oXt_sub, oXf_sub, oXt_slc, oXf_slc, oXt_rev, oXf_rev, oXt_tup, oXf_tup, oXt_lst, oXf_lst, oXt_call, oXf_call, oXt_prim, oXf_prim, oXt_isi, oXf_isi, oXt_comp, oXf_comp, oXt_app, oXf_app, oXt_ext, oXf_ext, oXt_pop, oXf_pop, oXf_var, oXt_var, oX_lend, eX_var, eX_non, eX_bl, eX_int, eX_str, eX_glb, eX_bin, eX_neg, eX_not, eX_cmp, eX_chain, eX_and, eX_or, eX_ife, eX_sub, eX_slc, eX_rev, eX_tup, eX_lst, eX_call, eX_prim, eX_isi, eX_comp, eX_app, eX_ext, eX_pop, eP_nil, eP_cons, eL_nil, eL_cons, eI_rng1, eI_rng2, eI_cons, eS_nil, eS_cons, eS_set, eS_unp, eS_sti, eS_ex, eS_ifs, eS_whl, eS_fors, eS_brk, eS_cnt, eS_pas, eS_retv, eS_ret_non, eS_ret_bl, eS_ret_int, eS_ret_str, eS_ret_glb, eS_ret_bin, eS_ret_neg, eS_ret_not, eS_ret_cmp, eS_ret_chain, eS_ret_and, eS_ret_or, eS_ret_ife, eS_ret_sub, eS_ret_slc, eS_ret_rev, eS_ret_tup, eS_ret_lst, eS_ret_call, eS_ret_prim, eS_ret_isi, eS_ret_comp, eS_ret_app, eS_ret_ext, eS_ret_pop, lpS_nil, lpS_cons, cmS_nil, cmS_cons, rdO, rdS, rdAll, frz, valsOf, argsOf, slotsOf, putBack, slD, prD, seqD, asg, asgs, bopD, copD, eqD, truS, List.mapIdx_cons, List.mapIdx_nil, List.getElem?_cons_zero, List.getElem?_cons_succ, List.set_cons_zero, List.set_cons_succ, List.length_cons, List.length_nil, List.cons_append, List.nil_append, List.replicate_zero, List.replicate_succ, List.append_nil, List.nodup_nil, List.nodup_cons, List.not_mem_nil, Nat.sub_self, Nat.add_one_sub_one, Nat.zero_lt_succ, if_true, if_false, eq_self_iff_true, reduceIte, reduceCtorEq, Nat.zero_le, slv, not_false_eq_true, and_self, and_true, true_and, List.singleton_append, Bool.not_true, Bool.not_false, List.foldl_nil, ite_true, ite_false, beq_self_eq_true, Nat.reduceAdd, Nat.reduceLT, Nat.reduceLeDiff, Nat.reduceSub, Nat.reduceEqDiff, Nat.reduceMul, Int.reduceAdd, Int.reduceLT, Int.reduceLE, Int.reduceNeg, Int.reduceEq, Int.reduceSub, decide_true, decide_false, decide_eq_true_eq, cond_true, cond_false, Int.reducePow, lastL, dropL, e0, lX, lX2]
  have e0 : ((kind : Int) == 0) = false := beqF (by omega)
  by_cases c8 : 8 < kind
  · have g8 : (8 : Int) < (kind : Int) := by omega
    have q : stepR kind t l D (top :: R) = l :: top :: R := by rw [stepR, stepTop, if_pos (.inr c8)]
    rw [q, hp_cons, hp_cons]
    generalize hp o R = X at *
    generalize prO o top = P at *
    generalize prO o l = Q at *
    simp only [runF, tagA, outsA, oXt_non, oXf_non, oXt_bl, oXf_bl, oXt_int, oXf_int, oXt_str, oXf_str, oXt_glb, oXf_glb, oXt_bin, oXf_bin, oXt_neg, oXf_neg, oXt_not, oXf_not, oXt_cmp, oXf_cmp, oXt_chain, oXf_chain, oXt_and, oXf_and, oXt_or, oXf_or, oXt_ife, oXf_ife, oXt_sub, oXf_sub, oXt_slc, oXf_slc, oXt_rev, oXf_rev, oXt_tup, oXf_tup, oXt_lst, oXf_lst, oXt_call, oXf_call, oXt_prim, oXf_prim, oXt_isi, oXf_isi, oXt_comp, oXf_comp, oXt_app, oXf_app, oXt_ext, oXf_ext, oXt_pop, oXf_pop, oXf_var, oXt_var, oX_lend, eX_var, eX_non, eX_bl, eX_int, eX_str, eX_glb, eX_bin, eX_neg, eX_not, eX_cmp, eX_chain, eX_and, eX_or, eX_ife, eX_sub, eX_slc, eX_rev, eX_tup, eX_lst, eX_call, eX_prim, eX_isi, eX_comp, eX_app, eX_ext, eX_pop, eP_nil, eP_cons, eL_nil, eL_cons, eI_rng1, eI_rng2, eI_cons, eS_nil, eS_cons, eS_set, eS_unp, eS_sti, eS_ex, eS_ifs, eS_whl, eS_fors, eS_brk, eS_cnt, eS_pas, eS_retv, eS_ret_non, eS_ret_bl, eS_ret_int, eS_ret_str, eS_ret_glb, eS_ret_bin, eS_ret_neg, eS_ret_not, eS_ret_cmp, eS_ret_chain, eS_ret_and, eS_ret_or, eS_ret_ife, eS_ret_sub, eS_ret_slc, eS_ret_rev, eS_ret_tup, eS_ret_lst, eS_ret_call, eS_ret_prim, eS_ret_isi, eS_ret_comp, eS_ret_app, eS_ret_ext, eS_ret_pop, lpS_nil, lpS_cons, cmS_nil, cmS_cons, rdO, rdS, rdAll, frz, valsOf, argsOf, slotsOf, putBack, slD, prD, seqD, asg, asgs, bopD, copD, eqD, truS, List.mapIdx_cons, List.mapIdx_nil, List.getElem?_cons_zero, List.getElem?_cons_succ, List.set_cons_zero, List.set_cons_succ, List.length_cons, List.length_nil, List.cons_append, List.nil_append, List.replicate_zero, List.replicate_succ, List.append_nil, List.nodup_nil, List.nodup_cons, List.not_mem_nil, Nat.sub_self, Nat.add_one_sub_one, Nat.zero_lt_succ, if_true, if_false, eq_self_iff_true, reduceIte, reduceCtorEq, Nat.zero_le, slv, not_false_eq_true, and_self, and_true, true_and, List.singleton_append, Bool.not_true, Bool.not_false, List.foldl_nil, ite_true, ite_false, beq_self_eq_true, Nat.reduceAdd, Nat.reduceLT, Nat.reduceLeDiff, Nat.reduceSub, Nat.reduceEqDiff, Nat.reduceMul, Int.reduceAdd, Int.reduceLT, Int.reduceLE, Int.reduceNeg, Int.reduceEq, Int.reduceSub, decide_true, decide_false, decide_eq_true_eq, cond_true, cond_false, Int.reducePow, lastL, dropL, e0, g8, lX, lX2]
  have g8 : ¬ ((8 : Int) < (kind : Int)) := by omega
  have q0 : ¬ (kind = 0 ∨ 8 < kind) := fun z => z.elim c0 c8
  by_cases c1 : kind = 1
  · have e1 : ((kind : Int) == 1) = true := beqT (by omega)
    have q : stepR kind t l D (top :: R) = .nil :: top :: R := by rw [stepR, stepTop, if_neg q0, if_pos c1]
    rw [q, hp_cons, hp_cons, pO_nil]
    generalize hp o R = X at *
    generalize prO o top = P at *
    simp only [runF, tagA, outsA, oXt_non, oXf_non, oXt_bl, oXf_bl, oXt_int, oXf_int, oXt_str, oXf_str, oXt_glb, oXf_glb, oXt_bin, oXf_bin, oXt_neg, oXf_neg, oXt_not, oXf_not, oXt_cmp, oXf_cmp, oXt_chain, oXf_chain, oXt_and, oXf_and, oXt_or, oXf_or, oXt_ife, oXf_ife, oXt_sub, oXf_sub, oXt_slc, oXf_slc, oXt_rev, oXf_rev, oXt_tup, oXf_tup, oXt_lst, oXf_lst, oXt_call, oXf_call, oXt_prim, oXf_prim, oXt_isi, oXf_isi, oXt_comp, oXf_comp, oXt_app, oXf_app, oXt_ext, oXf_ext, oXt_pop, oXf_pop, oXf_var, oXt_var, oX_lend, eX_var, eX_non, eX_bl, eX_int, eX_str, eX_glb, eX_bin, eX_neg, eX_not, eX_cmp, eX_chain, eX_and, eX_or, eX_ife, eX_sub, eX_slc, eX_rev, eX_tup, eX_lst, eX_call, eX_prim, eX_isi, eX_comp, eX_app, eX_ext, eX_pop, eP_nil, eP_cons, eL_nil, eL_cons, eI_rng1, eI_rng2, eI_cons, eS_nil, eS_cons, eS_set, eS_unp, eS_sti, eS_ex, eS_ifs, eS_whl, eS_fors, eS_brk, eS_cnt, eS_pas, eS_retv, eS_ret_non, eS_ret_bl, eS_ret_int, eS_ret_str, eS_ret_glb, eS_ret_bin, eS_ret_neg, eS_ret_not, eS_ret_cmp, eS_ret_chain, eS_ret_and, eS_ret_or, eS_ret_ife, eS_ret_sub, eS_ret_slc, eS_ret_rev, eS_ret_tup, eS_ret_lst, eS_ret_call, eS_ret_prim, eS_ret_isi, eS_ret_comp, eS_ret_app, eS_ret_ext, eS_ret_pop, lpS_nil, lpS_cons, cmS_nil, cmS_cons, rdO, rdS, rdAll, frz, valsOf, argsOf, slotsOf, putBack, slD, prD, seqD, asg, asgs, bopD, copD, eqD, truS, List.mapIdx_cons, List.mapIdx_nil, List.getElem?_cons_zero, List.getElem?_cons_succ, List.set_cons_zero, List.set_cons_succ, List.length_cons, List.length_nil, List.cons_append, List.nil_append, List.replicate_zero, List.replicate_succ, List.append_nil, List.nodup_nil, List.nodup_cons, List.not_mem_nil, Nat.sub_self, Nat.add_one_sub_one, Nat.zero_lt_succ, if_true, if_false, eq_self_iff_true, reduceIte, reduceCtorEq, Nat.zero_le, slv, not_false_eq_true, and_self, and_true, true_and, List.singleton_append, Bool.not_true, Bool.not_false, List.foldl_nil, ite_true, ite_false, beq_self_eq_true, Nat.reduceAdd, Nat.reduceLT, Nat.reduceLeDiff, Nat.reduceSub, Nat.reduceEqDiff, Nat.reduceMul, Int.reduceAdd, Int.reduceLT, Int.reduceLE, Int.reduceNeg, Int.reduceEq, Int.reduceSub, decide_true, decide_false, decide_eq_true_eq, cond_true, cond_false, Int.reducePow, lastL, dropL, e0, e1, g8, lX, lX2, nn, pc_fold]
  have e1 : ((kind : Int) == 1) = false := beqF (by omega)
  by_cases c2 : kind = 2 ∨ D ≤ dep top
  · have q : stepR kind t l D (top :: R) = app top l :: R := by rw [stepR, stepTop, if_neg q0, if_neg c1, if_pos c2]
    have b1 := both_ok hk top l ht.1 hl.1
    have b2 := both_ok hk (fillB top o) (fillB l o) ht.2 hl.2
    rw [q, hp_cons, pO_app]
    generalize hp o R = X at *
    by_cases c2' : kind = 2
    · have e2 : ((kind : Int) == 2) = true := beqT (by omega)
      simp only [runF, tagA, outsA, oXt_non, oXf_non, oXt_bl, oXf_bl, oXt_int, oXf_int, oXt_str, oXf_str, oXt_glb, oXf_glb, oXt_bin, oXf_bin, oXt_neg, oXf_neg, oXt_not, oXf_not, oXt_cmp, oXf_cmp, oXt_chain, oXf_chain, oXt_and, oXf_and, oXt_or, oXf_or, oXt_ife, oXf_ife, oXt_sub, oXf_sub, oXt_slc, oXf_slc, oXt_rev, oXf_rev, oXt_tup, oXf_tup, oXt_lst, oXf_lst, oXt_call, oXf_call, oXt_prim, oXf_prim, oXt_isi, oXf_isi, oXt_comp, oXf_comp, oXt_app, oXf_app, oXt_ext, oXf_ext, oXt_pop, oXf_pop, oXf_var, oXt_var, oX_lend, eX_var, eX_non, eX_bl, eX_int, eX_str, eX_glb, eX_bin, eX_neg, eX_not, eX_cmp, eX_chain, eX_and, eX_or, eX_ife, eX_sub, eX_slc, eX_rev, eX_tup, eX_lst, eX_call, eX_prim, eX_isi, eX_comp, eX_app, eX_ext, eX_pop, eP_nil, eP_cons, eL_nil, eL_cons, eI_rng1, eI_rng2, eI_cons, eS_nil, eS_cons, eS_set, eS_unp, eS_sti, eS_ex, eS_ifs, eS_whl, eS_fors, eS_brk, eS_cnt, eS_pas, eS_retv, eS_ret_non, eS_ret_bl, eS_ret_int, eS_ret_str, eS_ret_glb, eS_ret_bin, eS_ret_neg, eS_ret_not, eS_ret_cmp, eS_ret_chain, eS_ret_and, eS_ret_or, eS_ret_ife, eS_ret_sub, eS_ret_slc, eS_ret_rev, eS_ret_tup, eS_ret_lst, eS_ret_call, eS_ret_prim, eS_ret_isi, eS_ret_comp, eS_ret_app, eS_ret_ext, eS_ret_pop, lpS_nil, lpS_cons, cmS_nil, cmS_cons, rdO, rdS, rdAll, frz, valsOf, argsOf, slotsOf, putBack, slD, prD, seqD, asg, asgs, bopD, copD, eqD, truS, List.mapIdx_cons, List.mapIdx_nil, List.getElem?_cons_zero, List.getElem?_cons_succ, List.set_cons_zero, List.set_cons_succ, List.length_cons, List.length_nil, List.cons_append, List.nil_append, List.replicate_zero, List.replicate_succ, List.append_nil, List.nodup_nil, List.nodup_cons, List.not_mem_nil, Nat.sub_self, Nat.add_one_sub_one, Nat.zero_lt_succ, if_true, if_false, eq_self_iff_true, reduceIte, reduceCtorEq, Nat.zero_le, slv, not_false_eq_true, and_self, and_true, true_and, List.singleton_append, Bool.not_true, Bool.not_false, List.foldl_nil, ite_true, ite_false, beq_self_eq_true, Nat.reduceAdd, Nat.reduceLT, Nat.reduceLeDiff, Nat.reduceSub, Nat.reduceEqDiff, Nat.reduceMul, Int.reduceAdd, Int.reduceLT, Int.reduceLE, Int.reduceNeg, Int.reduceEq, Int.reduceSub, decide_true, decide_false, decide_eq_true_eq, cond_true, cond_false, Int.reducePow, lastL, dropL, e0, e1, e2, g8, lX, lX2, pr0, pr1, b1, b2, pc_fold]
    · have e2 : ((kind : Int) == 2) = false := beqF (by omega)
      have dd : (D : Int) ≤ (dep top : Int) := by rcases c2 with z | z <;> omega
      simp only [runF, tagA, outsA, oXt_non, oXf_non, oXt_bl, oXf_bl, oXt_int, oXf_int, oXt_str, oXf_str, oXt_glb, oXf_glb, oXt_bin, oXf_bin, oXt_neg, oXf_neg, oXt_not, oXf_not, oXt_cmp, oXf_cmp, oXt_chain, oXf_chain, oXt_and, oXf_and, oXt_or, oXf_or, oXt_ife, oXf_ife, oXt_sub, oXf_sub, oXt_slc, oXf_slc, oXt_rev, oXf_rev, oXt_tup, oXf_tup, oXt_lst, oXf_lst, oXt_call, oXf_call, oXt_prim, oXf_prim, oXt_isi, oXf_isi, oXt_comp, oXf_comp, oXt_app, oXf_app, oXt_ext, oXf_ext, oXt_pop, oXf_pop, oXf_var, oXt_var, oX_lend, eX_var, eX_non, eX_bl, eX_int, eX_str, eX_glb, eX_bin, eX_neg, eX_not, eX_cmp, eX_chain, eX_and, eX_or, eX_ife, eX_sub, eX_slc, eX_rev, eX_tup, eX_lst, eX_call, eX_prim, eX_isi, eX_comp, eX_app, eX_ext, eX_pop, eP_nil, eP_cons, eL_nil, eL_cons, eI_rng1, eI_rng2, eI_cons, eS_nil, eS_cons, eS_set, eS_unp, eS_sti, eS_ex, eS_ifs, eS_whl, eS_fors, eS_brk, eS_cnt, eS_pas, eS_retv, eS_ret_non, eS_ret_bl, eS_ret_int, eS_ret_str, eS_ret_glb, eS_ret_bin, eS_ret_neg, eS_ret_not, eS_ret_cmp, eS_ret_chain, eS_ret_and, eS_ret_or, eS_ret_ife, eS_ret_sub, eS_ret_slc, eS_ret_rev, eS_ret_tup, eS_ret_lst, eS_ret_call, eS_ret_prim, eS_ret_isi, eS_ret_comp, eS_ret_app, eS_ret_ext, eS_ret_pop, lpS_nil, lpS_cons, cmS_nil, cmS_cons, rdO, rdS, rdAll, frz, valsOf, argsOf, slotsOf, putBack, slD, prD, seqD, asg, asgs, bopD, copD, eqD, truS, List.mapIdx_cons, List.mapIdx_nil, List.getElem?_cons_zero, List.getElem?_cons_succ, List.set_cons_zero, List.set_cons_succ, List.length_cons, List.length_nil, List.cons_append, List.nil_append, List.replicate_zero, List.replicate_succ, List.append_nil, List.nodup_nil, List.nodup_cons, List.not_mem_nil, Nat.sub_self, Nat.add_one_sub_one, Nat.zero_lt_succ, if_true, if_false, eq_self_iff_true, reduceIte, reduceCtorEq, Nat.zero_le, slv, not_false_eq_true, and_self, and_true, true_and, List.singleton_append, Bool.not_true, Bool.not_false, List.foldl_nil, ite_true, ite_false, beq_self_eq_true, Nat.reduceAdd, Nat.reduceLT, Nat.reduceLeDiff, Nat.reduceSub, Nat.reduceEqDiff, Nat.reduceMul, Int.reduceAdd, Int.reduceLT, Int.reduceLE, Int.reduceNeg, Int.reduceEq, Int.reduceSub, decide_true, decide_false, decide_eq_true_eq, cond_true, cond_false, Int.reducePow, lastL, dropL, e0, e1, e2, g8, lX, lX2, pr0, pr1, sq4, dd, b1, b2, pc_fold]
  have e2 : ((kind : Int) == 2) = false := beqF (fun z => c2 (.inl (by omega)))
  have dd : ¬ ((D : Int) ≤ (dep top : Int)) := fun z => c2 (.inr (by omega))
  by_cases c3 : kind = 3
  · have e3 : ((kind : Int) == 3) = true := beqT (by omega)
    have q : stepR kind t l D (top :: R) = .ife t top .nil .nil :: R := by rw [stepR, stepTop, if_neg q0, if_neg c1, if_neg c2, if_pos c3]
    have b1 := if_ok hk t top .nil ht.1 wn
    have b2 := if_ok hk t (fillB top o) .nil ht.2 wn
    rw [q, hp_cons, pO_if1]
    generalize hp o R = X at *
    simp only [runF, tagA, outsA, oXt_non, oXf_non, oXt_bl, oXf_bl, oXt_int, oXf_int, oXt_str, oXf_str, oXt_glb, oXf_glb, oXt_bin, oXf_bin, oXt_neg, oXf_neg, oXt_not, oXf_not, oXt_cmp, oXf_cmp, oXt_chain, oXf_chain, oXt_and, oXf_and, oXt_or, oXf_or, oXt_ife, oXf_ife, oXt_sub, oXf_sub, oXt_slc, oXf_slc, oXt_rev, oXf_rev, oXt_tup, oXf_tup, oXt_lst, oXf_lst, oXt_call, oXf_call, oXt_prim, oXf_prim, oXt_isi, oXf_isi, oXt_comp, oXf_comp, oXt_app, oXf_app, oXt_ext, oXf_ext, oXt_pop, oXf_pop, oXf_var, oXt_var, oX_lend, eX_var, eX_non, eX_bl, eX_int, eX_str, eX_glb, eX_bin, eX_neg, eX_not, eX_cmp, eX_chain, eX_and, eX_or, eX_ife, eX_sub, eX_slc, eX_rev, eX_tup, eX_lst, eX_call, eX_prim, eX_isi, eX_comp, eX_app, eX_ext, eX_pop, eP_nil, eP_cons, eL_nil, eL_cons, eI_rng1, eI_rng2, eI_cons, eS_nil, eS_cons, eS_set, eS_unp, eS_sti, eS_ex, eS_ifs, eS_whl, eS_fors, eS_brk, eS_cnt, eS_pas, eS_retv, eS_ret_non, eS_ret_bl, eS_ret_int, eS_ret_str, eS_ret_glb, eS_ret_bin, eS_ret_neg, eS_ret_not, eS_ret_cmp, eS_ret_chain, eS_ret_and, eS_ret_or, eS_ret_ife, eS_ret_sub, eS_ret_slc, eS_ret_rev, eS_ret_tup, eS_ret_lst, eS_ret_call, eS_ret_prim, eS_ret_isi, eS_ret_comp, eS_ret_app, eS_ret_ext, eS_ret_pop, lpS_nil, lpS_cons, cmS_nil, cmS_cons, rdO, rdS, rdAll, frz, valsOf, argsOf, slotsOf, putBack, slD, prD, seqD, asg, asgs, bopD, copD, eqD, truS, List.mapIdx_cons, List.mapIdx_nil, List.getElem?_cons_zero, List.getElem?_cons_succ, List.set_cons_zero, List.set_cons_succ, List.length_cons, List.length_nil, List.cons_append, List.nil_append, List.replicate_zero, List.replicate_succ, List.append_nil, List.nodup_nil, List.nodup_cons, List.not_mem_nil, Nat.sub_self, Nat.add_one_sub_one, Nat.zero_lt_succ, if_true, if_false, eq_self_iff_true, reduceIte, reduceCtorEq, Nat.zero_le, slv, not_false_eq_true, and_self, and_true, true_and, List.singleton_append, Bool.not_true, Bool.not_false, List.foldl_nil, ite_true, ite_false, beq_self_eq_true, Nat.reduceAdd, Nat.reduceLT, Nat.reduceLeDiff, Nat.reduceSub, Nat.reduceEqDiff, Nat.reduceMul, Int.reduceAdd, Int.reduceLT, Int.reduceLE, Int.reduceNeg, Int.reduceEq, Int.reduceSub, decide_true, decide_false, decide_eq_true_eq, cond_true, cond_false, Int.reducePow, lastL, dropL, e0, e1, e2, e3, g8, lX, lX2, pr0, pr1, sq4, dd, b1, b2, nn, pc_fold]
  have e3 : ((kind : Int) == 3) = false := beqF (by omega)
  by_cases c4 : kind = 4
  · have e4 : ((kind : Int) == 4) = true := beqT (by omega)
    have q : stepR kind t l D (top :: R) = .whl t top .nil :: R := by rw [stepR, stepTop, if_neg q0, if_neg c1, if_neg c2, if_neg c3, if_pos c4]
    have b1 := while_ok hk t top ht.1
    have b2 := while_ok hk t (fillB top o) ht.2
    rw [q, hp_cons, pO_wh]
    generalize hp o R = X at *
    simp only [runF, tagA, outsA, oXt_non, oXf_non, oXt_bl, oXf_bl, oXt_int, oXf_int, oXt_str, oXf_str, oXt_glb, oXf_glb, oXt_bin, oXf_bin, oXt_neg, oXf_neg, oXt_not, oXf_not, oXt_cmp, oXf_cmp, oXt_chain, oXf_chain, oXt_and, oXf_and, oXt_or, oXf_or, oXt_ife, oXf_ife, oXt_sub, oXf_sub, oXt_slc, oXf_slc, oXt_rev, oXf_rev, oXt_tup, oXf_tup, oXt_lst, oXf_lst, oXt_call, oXf_call, oXt_prim, oXf_prim, oXt_isi, oXf_isi, oXt_comp, oXf_comp, oXt_app, oXf_app, oXt_ext, oXf_ext, oXt_pop, oXf_pop, oXf_var, oXt_var, oX_lend, eX_var, eX_non, eX_bl, eX_int, eX_str, eX_glb, eX_bin, eX_neg, eX_not, eX_cmp, eX_chain, eX_and, eX_or, eX_ife, eX_sub, eX_slc, eX_rev, eX_tup, eX_lst, eX_call, eX_prim, eX_isi, eX_comp, eX_app, eX_ext, eX_pop, eP_nil, eP_cons, eL_nil, eL_cons, eI_rng1, eI_rng2, eI_cons, eS_nil, eS_cons, eS_set, eS_unp, eS_sti, eS_ex, eS_ifs, eS_whl, eS_fors, eS_brk, eS_cnt, eS_pas, eS_retv, eS_ret_non, eS_ret_bl, eS_ret_int, eS_ret_str, eS_ret_glb, eS_ret_bin, eS_ret_neg, eS_ret_not, eS_ret_cmp, eS_ret_chain, eS_ret_and, eS_ret_or, eS_ret_ife, eS_ret_sub, eS_ret_slc, eS_ret_rev, eS_ret_tup, eS_ret_lst, eS_ret_call, eS_ret_prim, eS_ret_isi, eS_ret_comp, eS_ret_app, eS_ret_ext, eS_ret_pop, lpS_nil, lpS_cons, cmS_nil, cmS_cons, rdO, rdS, rdAll, frz, valsOf, argsOf, slotsOf, putBack, slD, prD, seqD, asg, asgs, bopD, copD, eqD, truS, List.mapIdx_cons, List.mapIdx_nil, List.getElem?_cons_zero, List.getElem?_cons_succ, List.set_cons_zero, List.set_cons_succ, List.length_cons, List.length_nil, List.cons_append, List.nil_append, List.replicate_zero, List.replicate_succ, List.append_nil, List.nodup_nil, List.nodup_cons, List.not_mem_nil, Nat.sub_self, Nat.add_one_sub_one, Nat.zero_lt_succ, if_true, if_false, eq_self_iff_true, reduceIte, reduceCtorEq, Nat.zero_le, slv, not_false_eq_true, and_self, and_true, true_and, List.singleton_append, Bool.not_true, Bool.not_false, List.foldl_nil, ite_true, ite_false, beq_self_eq_true, Nat.reduceAdd, Nat.reduceLT, Nat.reduceLeDiff, Nat.reduceSub, Nat.reduceEqDiff, Nat.reduceMul, Int.reduceAdd, Int.reduceLT, Int.reduceLE, Int.reduceNeg, Int.reduceEq, Int.reduceSub, decide_true, decide_false, decide_eq_true_eq, cond_true, cond_false, Int.reducePow, lastL, dropL, e0, e1, e2, e3, e4, g8, lX, lX2, pr0, pr1, sq4, dd, b1, b2, pc_fold]
  have e4 : ((kind : Int) == 4) = false := beqF (by omega)
  cases R with
  | nil =>
    have q : stepR kind t l D [top] = [.ife t l top .nil] := by rw [stepR, stepTop, if_neg q0, if_neg c1, if_neg c2, if_neg c3, if_neg c4, stepLow]
    have b1 := if_ok hk t l top hl.1 ht.1
    have b2 := if_ok hk t (fillB l o) (fillB top o) hl.2 ht.2
    have z : (((0 : Nat) : Int) == 0) = true := rfl
    have dl := dropL (α := PD) [] (prO o top)
    have la := lastL (α := PD) [] (prO o top)
    rw [q, hp_cons, pO_if]
    simp only [List.nil_append] at dl la
    simp only [hp_nil, runF, tagA, outsA, oXt_non, oXf_non, oXt_bl, oXf_bl, oXt_int, oXf_int, oXt_str, oXf_str, oXt_glb, oXf_glb, oXt_bin, oXf_bin, oXt_neg, oXf_neg, oXt_not, oXf_not, oXt_cmp, oXf_cmp, oXt_chain, oXf_chain, oXt_and, oXf_and, oXt_or, oXf_or, oXt_ife, oXf_ife, oXt_sub, oXf_sub, oXt_slc, oXf_slc, oXt_rev, oXf_rev, oXt_tup, oXf_tup, oXt_lst, oXf_lst, oXt_call, oXf_call, oXt_prim, oXf_prim, oXt_isi, oXf_isi, oXt_comp, oXf_comp, oXt_app, oXf_app, oXt_ext, oXf_ext, oXt_pop, oXf_pop, oXf_var, oXt_var, oX_lend, eX_var, eX_non, eX_bl, eX_int, eX_str, eX_glb, eX_bin, eX_neg, eX_not, eX_cmp, eX_chain, eX_and, eX_or, eX_ife, eX_sub, eX_slc, eX_rev, eX_tup, eX_lst, eX_call, eX_prim, eX_isi, eX_comp, eX_app, eX_ext, eX_pop, eP_nil, eP_cons, eL_nil, eL_cons, eI_rng1, eI_rng2, eI_cons, eS_nil, eS_cons, eS_set, eS_unp, eS_sti, eS_ex, eS_ifs, eS_whl, eS_fors, eS_brk, eS_cnt, eS_pas, eS_retv, eS_ret_non, eS_ret_bl, eS_ret_int, eS_ret_str, eS_ret_glb, eS_ret_bin, eS_ret_neg, eS_ret_not, eS_ret_cmp, eS_ret_chain, eS_ret_and, eS_ret_or, eS_ret_ife, eS_ret_sub, eS_ret_slc, eS_ret_rev, eS_ret_tup, eS_ret_lst, eS_ret_call, eS_ret_prim, eS_ret_isi, eS_ret_comp, eS_ret_app, eS_ret_ext, eS_ret_pop, lpS_nil, lpS_cons, cmS_nil, cmS_cons, rdO, rdS, rdAll, frz, valsOf, argsOf, slotsOf, putBack, slD, prD, seqD, asg, asgs, bopD, copD, eqD, truS, List.mapIdx_cons, List.mapIdx_nil, List.getElem?_cons_zero, List.getElem?_cons_succ, List.set_cons_zero, List.set_cons_succ, List.length_cons, List.length_nil, List.cons_append, List.nil_append, List.replicate_zero, List.replicate_succ, List.append_nil, List.nodup_nil, List.nodup_cons, List.not_mem_nil, Nat.sub_self, Nat.add_one_sub_one, Nat.zero_lt_succ, if_true, if_false, eq_self_iff_true, reduceIte, reduceCtorEq, Nat.zero_le, slv, not_false_eq_true, and_self, and_true, true_and, List.singleton_append, Bool.not_true, Bool.not_false, List.foldl_nil, ite_true, ite_false, beq_self_eq_true, Nat.reduceAdd, Nat.reduceLT, Nat.reduceLeDiff, Nat.reduceSub, Nat.reduceEqDiff, Nat.reduceMul, Int.reduceAdd, Int.reduceLT, Int.reduceLE, Int.reduceNeg, Int.reduceEq, Int.reduceSub, decide_true, decide_false, decide_eq_true_eq, cond_true, cond_false, Int.reducePow, la, dl, z, e0, e1, e2, e3, e4, g8, pr0, pr1, sq4, dd, b1, b2, pc_fold, List.getElem?_cons_zero, List.dropLast_singleton]
  | cons below R' =>
    have z : ((((hp o R' ++ [prO o below]).length : Nat) : Int) == 0) = false := beqF (by rw [List.length_append]; simp only [List.length_cons, List.length_nil]; omega)
    have hb := hR below (List.mem_cons_self ..)
    have lY : (hp o R').length < 16777216 := by rw [hp_len]; simp only [List.length_cons] at hn; omega
    rw [hp_cons]
    by_cases c7 : kind < 7 ∨ D ≤ dep below
    · have q : stepR kind t l D (top :: below :: R') = app below top :: R' := by rw [stepR, stepTop, if_neg q0, if_neg c1, if_neg c2, if_neg c3, if_neg c4, stepLow, if_pos c7]
      have b1 := both_ok hk below top hb.1 ht.1
      have b2 := both_ok hk (fillB below o) (fillB top o) hb.2 ht.2
      rw [q, hp_cons, pO_app]
      generalize hp o R' = X at *
      by_cases c7' : kind < 7
      · have g7 : (kind : Int) < 7 := by omega
        simp only [runF, tagA, outsA, oXt_non, oXf_non, oXt_bl, oXf_bl, oXt_int, oXf_int, oXt_str, oXf_str, oXt_glb, oXf_glb, oXt_bin, oXf_bin, oXt_neg, oXf_neg, oXt_not, oXf_not, oXt_cmp, oXf_cmp, oXt_chain, oXf_chain, oXt_and, oXf_and, oXt_or, oXf_or, oXt_ife, oXf_ife, oXt_sub, oXf_sub, oXt_slc, oXf_slc, oXt_rev, oXf_rev, oXt_tup, oXf_tup, oXt_lst, oXf_lst, oXt_call, oXf_call, oXt_prim, oXf_prim, oXt_isi, oXf_isi, oXt_comp, oXf_comp, oXt_app, oXf_app, oXt_ext, oXf_ext, oXt_pop, oXf_pop, oXf_var, oXt_var, oX_lend, eX_var, eX_non, eX_bl, eX_int, eX_str, eX_glb, eX_bin, eX_neg, eX_not, eX_cmp, eX_chain, eX_and, eX_or, eX_ife, eX_sub, eX_slc, eX_rev, eX_tup, eX_lst, eX_call, eX_prim, eX_isi, eX_comp, eX_app, eX_ext, eX_pop, eP_nil, eP_cons, eL_nil, eL_cons, eI_rng1, eI_rng2, eI_cons, eS_nil, eS_cons, eS_set, eS_unp, eS_sti, eS_ex, eS_ifs, eS_whl, eS_fors, eS_brk, eS_cnt, eS_pas, eS_retv, eS_ret_non, eS_ret_bl, eS_ret_int, eS_ret_str, eS_ret_glb, eS_ret_bin, eS_ret_neg, eS_ret_not, eS_ret_cmp, eS_ret_chain, eS_ret_and, eS_ret_or, eS_ret_ife, eS_ret_sub, eS_ret_slc, eS_ret_rev, eS_ret_tup, eS_ret_lst, eS_ret_call, eS_ret_prim, eS_ret_isi, eS_ret_comp, eS_ret_app, eS_ret_ext, eS_ret_pop, lpS_nil, lpS_cons, cmS_nil, cmS_cons, rdO, rdS, rdAll, frz, valsOf, argsOf, slotsOf, putBack, slD, prD, seqD, asg, asgs, bopD, copD, eqD, truS, List.mapIdx_cons, List.mapIdx_nil, List.getElem?_cons_zero, List.getElem?_cons_succ, List.set_cons_zero, List.set_cons_succ, List.length_cons, List.length_nil, List.cons_append, List.nil_append, List.replicate_zero, List.replicate_succ, List.append_nil, List.nodup_nil, List.nodup_cons, List.not_mem_nil, Nat.sub_self, Nat.add_one_sub_one, Nat.zero_lt_succ, if_true, if_false, eq_self_iff_true, reduceIte, reduceCtorEq, Nat.zero_le, slv, not_false_eq_true, and_self, and_true, true_and, List.singleton_append, Bool.not_true, Bool.not_false, List.foldl_nil, ite_true, ite_false, beq_self_eq_true, Nat.reduceAdd, Nat.reduceLT, Nat.reduceLeDiff, Nat.reduceSub, Nat.reduceEqDiff, Nat.reduceMul, Int.reduceAdd, Int.reduceLT, Int.reduceLE, Int.reduceNeg, Int.reduceEq, Int.reduceSub, decide_true, decide_false, decide_eq_true_eq, cond_true, cond_false, Int.reducePow, lastL, dropL, z, e0, e1, e2, e3, e4, g7, g8, lY, pr0, pr1, sq4, dd, b1, b2, pc_fold]
      · have g7 : ¬ ((kind : Int) < 7) := by omega
        have db : (D : Int) ≤ (dep below : Int) := by rcases c7 with z | z <;> omega
        simp only [runF, tagA, outsA, oXt_non, oXf_non, oXt_bl, oXf_bl, oXt_int, oXf_int, oXt_str, oXf_str, oXt_glb, oXf_glb, oXt_bin, oXf_bin, oXt_neg, oXf_neg, oXt_not, oXf_not, oXt_cmp, oXf_cmp, oXt_chain, oXf_chain, oXt_and, oXf_and, oXt_or, oXf_or, oXt_ife, oXf_ife, oXt_sub, oXf_sub, oXt_slc, oXf_slc, oXt_rev, oXf_rev, oXt_tup, oXf_tup, oXt_lst, oXf_lst, oXt_call, oXf_call, oXt_prim, oXf_prim, oXt_isi, oXf_isi, oXt_comp, oXf_comp, oXt_app, oXf_app, oXt_ext, oXf_ext, oXt_pop, oXf_pop, oXf_var, oXt_var, oX_lend, eX_var, eX_non, eX_bl, eX_int, eX_str, eX_glb, eX_bin, eX_neg, eX_not, eX_cmp, eX_chain, eX_and, eX_or, eX_ife, eX_sub, eX_slc, eX_rev, eX_tup, eX_lst, eX_call, eX_prim, eX_isi, eX_comp, eX_app, eX_ext, eX_pop, eP_nil, eP_cons, eL_nil, eL_cons, eI_rng1, eI_rng2, eI_cons, eS_nil, eS_cons, eS_set, eS_unp, eS_sti, eS_ex, eS_ifs, eS_whl, eS_fors, eS_brk, eS_cnt, eS_pas, eS_retv, eS_ret_non, eS_ret_bl, eS_ret_int, eS_ret_str, eS_ret_glb, eS_ret_bin, eS_ret_neg, eS_ret_not, eS_ret_cmp, eS_ret_chain, eS_ret_and, eS_ret_or, eS_ret_ife, eS_ret_sub, eS_ret_slc, eS_ret_rev, eS_ret_tup, eS_ret_lst, eS_ret_call, eS_ret_prim, eS_ret_isi, eS_ret_comp, eS_ret_app, eS_ret_ext, eS_ret_pop, lpS_nil, lpS_cons, cmS_nil, cmS_cons, rdO, rdS, rdAll, frz, valsOf, argsOf, slotsOf, putBack, slD, prD, seqD, asg, asgs, bopD, copD, eqD, truS, List.mapIdx_cons, List.mapIdx_nil, List.getElem?_cons_zero, List.getElem?_cons_succ, List.set_cons_zero, List.set_cons_succ, List.length_cons, List.length_nil, List.cons_append, List.nil_append, List.replicate_zero, List.replicate_succ, List.append_nil, List.nodup_nil, List.nodup_cons, List.not_mem_nil, Nat.sub_self, Nat.add_one_sub_one, Nat.zero_lt_succ, if_true, if_false, eq_self_iff_true, reduceIte, reduceCtorEq, Nat.zero_le, slv, not_false_eq_true, and_self, and_true, true_and, List.singleton_append, Bool.not_true, Bool.not_false, List.foldl_nil, ite_true, ite_false, beq_self_eq_true, Nat.reduceAdd, Nat.reduceLT, Nat.reduceLeDiff, Nat.reduceSub, Nat.reduceEqDiff, Nat.reduceMul, Int.reduceAdd, Int.reduceLT, Int.reduceLE, Int.reduceNeg, Int.reduceEq, Int.reduceSub, decide_true, decide_false, decide_eq_true_eq, cond_true, cond_false, Int.reducePow, lastL, dropL, z, e0, e1, e2, e3, e4, g7, g8, lY, pr0, pr1, sq4, dd, db, b1, b2, pc_fold]
    · have q : stepR kind t l D (top :: below :: R') = .ife t below top .nil :: R' := by rw [stepR, stepTop, if_neg q0, if_neg c1, if_neg c2, if_neg c3, if_neg c4, stepLow, if_neg c7]
      have g7 : ¬ ((kind : Int) < 7) := fun z => c7 (.inl (by omega))
      have db : ¬ ((D : Int) ≤ (dep below : Int)) := fun z => c7 (.inr (by omega))
      have b1 := if_ok hk t below top hb.1 ht.1
      have b2 := if_ok hk t (fillB below o) (fillB top o) hb.2 ht.2
      rw [q, hp_cons, pO_if]
      generalize hp o R' = X at *
      simp only [runF, tagA, outsA, oXt_non, oXf_non, oXt_bl, oXf_bl, oXt_int, oXf_int, oXt_str, oXf_str, oXt_glb, oXf_glb, oXt_bin, oXf_bin, oXt_neg, oXf_neg, oXt_not, oXf_not, oXt_cmp, oXf_cmp, oXt_chain, oXf_chain, oXt_and, oXf_and, oXt_or, oXf_or, oXt_ife, oXf_ife, oXt_sub, oXf_sub, oXt_slc, oXf_slc, oXt_rev, oXf_rev, oXt_tup, oXf_tup, oXt_lst, oXf_lst, oXt_call, oXf_call, oXt_prim, oXf_prim, oXt_isi, oXf_isi, oXt_comp, oXf_comp, oXt_app, oXf_app, oXt_ext, oXf_ext, oXt_pop, oXf_pop, oXf_var, oXt_var, oX_lend, eX_var, eX_non, eX_bl, eX_int, eX_str, eX_glb, eX_bin, eX_neg, eX_not, eX_cmp, eX_chain, eX_and, eX_or, eX_ife, eX_sub, eX_slc, eX_rev, eX_tup, eX_lst, eX_call, eX_prim, eX_isi, eX_comp, eX_app, eX_ext, eX_pop, eP_nil, eP_cons, eL_nil, eL_cons, eI_rng1, eI_rng2, eI_cons, eS_nil, eS_cons, eS_set, eS_unp, eS_sti, eS_ex, eS_ifs, eS_whl, eS_fors, eS_brk, eS_cnt, eS_pas, eS_retv, eS_ret_non, eS_ret_bl, eS_ret_int, eS_ret_str, eS_ret_glb, eS_ret_bin, eS_ret_neg, eS_ret_not, eS_ret_cmp, eS_ret_chain, eS_ret_and, eS_ret_or, eS_ret_ife, eS_ret_sub, eS_ret_slc, eS_ret_rev, eS_ret_tup, eS_ret_lst, eS_ret_call, eS_ret_prim, eS_ret_isi, eS_ret_comp, eS_ret_app, eS_ret_ext, eS_ret_pop, lpS_nil, lpS_cons, cmS_nil, cmS_cons, rdO, rdS, rdAll, frz, valsOf, argsOf, slotsOf, putBack, slD, prD, seqD, asg, asgs, bopD, copD, eqD, truS, List.mapIdx_cons, List.mapIdx_nil, List.getElem?_cons_zero, List.getElem?_cons_succ, List.set_cons_zero, List.set_cons_succ, List.length_cons, List.length_nil, List.cons_append, List.nil_append, List.replicate_zero, List.replicate_succ, List.append_nil, List.nodup_nil, List.nodup_cons, List.not_mem_nil, Nat.sub_self, Nat.add_one_sub_one, Nat.zero_lt_succ, if_true, if_false, eq_self_iff_true, reduceIte, reduceCtorEq, Nat.zero_le, slv, not_false_eq_true, and_self, and_true, true_and, List.singleton_append, Bool.not_true, Bool.not_false, List.foldl_nil, ite_true, ite_false, beq_self_eq_true, Nat.reduceAdd, Nat.reduceLT, Nat.reduceLeDiff, Nat.reduceSub, Nat.reduceEqDiff, Nat.reduceMul, Int.reduceAdd, Int.reduceLT, Int.reduceLE, Int.reduceNeg, Int.reduceEq, Int.reduceSub, decide_true, decide_false, decide_eq_true_eq, cond_true, cond_false, Int.reducePow, lastL, dropL, z, e0, e1, e2, e3, e4, g7, g8, lY, pr0, pr1, sq4, dd, db, b1, b2, pc_fold]
/-! what a step keeps -/
structure Keep (D W : Nat) (R : List Blk) : Prop where
  ok : ∀ a ∈ R, okB a = true ∧ dep a ≤ D
  w : (R.map wt).sum ≤ W
  ne : R ≠ []
theorem step_keep {D W kind : Nat} {t : PD} {l : Blk} {R : List Blk} (h : Keep D W R) (ht : okT t = true) (hl : okB l = true) (dl : dep l = 1) (wl : wt l ≤ 1) (hD : 1 ≤ D) : Keep D (W + 2) (stepR kind t l D R) := by
  obtain ⟨ok, w, ne⟩ := h
  cases R with
  | nil => exact absurd rfl ne
  | cons top R =>
    have tp := ok top (List.mem_cons_self ..)
    have rest : ∀ a ∈ R, okB a = true ∧ dep a ≤ D := fun a ha => ok a (List.mem_cons_of_mem _ ha)
    simp only [List.map_cons, List.sum_cons] at w
    rw [stepR, stepTop]
    split
    · refine ⟨fun a ha => ?_, by simp only [List.map_cons, List.sum_cons]; omega, by simp⟩
      rcases List.mem_cons.mp ha with rfl | ha
      · exact ⟨hl, by omega⟩
      · exact ok a ha
    split
    · refine ⟨fun a ha => ?_, by simp only [List.map_cons, List.sum_cons, wt]; omega, by simp⟩
      rcases List.mem_cons.mp ha with rfl | ha
      · exact ⟨rfl, by simp only [dep]; omega⟩
      · exact ok a ha
    split
    · refine ⟨fun a ha => ?_, by simp only [List.map_cons, List.sum_cons, wt_app]; omega, by simp⟩
      rcases List.mem_cons.mp ha with rfl | ha
      · exact ⟨by rw [okB_app, tp.1, hl]; rfl, by rw [dep_app]; omega⟩
      · exact rest a ha
    rename_i c2
    have dp := dep_pos top
    have d1 : dep top < D := by
      by_cases z : D ≤ dep top
      · exact absurd (.inr z) c2
      · omega
    split
    · refine ⟨fun a ha => ?_, by simp only [List.map_cons, List.sum_cons, wt]; omega, by simp⟩
      rcases List.mem_cons.mp ha with rfl | ha
      · exact ⟨by simp only [okB, ht, tp.1, Bool.and_self], by simp only [dep]; omega⟩
      · exact rest a ha
    split
    · refine ⟨fun a ha => ?_, by simp only [List.map_cons, List.sum_cons, wt]; omega, by simp⟩
      rcases List.mem_cons.mp ha with rfl | ha
      · exact ⟨by simp only [okB, ht, tp.1, Bool.and_self], by simp only [dep]; omega⟩
      · exact rest a ha
    cases R with
    | nil =>
      rw [stepLow]
      refine ⟨fun a ha => ?_, by simp only [List.map_cons, List.map_nil, List.sum_nil, List.sum_cons, wt] at w ⊢; omega, by simp⟩
      rcases List.mem_cons.mp ha with rfl | ha
      · exact ⟨by simp only [okB, ht, hl, tp.1, Bool.and_self], by simp only [dep]; omega⟩
      · cases ha
    | cons below R' =>
      have bl := rest below (List.mem_cons_self ..)
      simp only [List.map_cons, List.sum_cons] at w
      rw [stepLow]
      split
      · refine ⟨fun a ha => ?_, by simp only [List.map_cons, List.sum_cons, wt_app]; omega, by simp⟩
        rcases List.mem_cons.mp ha with rfl | ha
        · exact ⟨by rw [okB_app, bl.1, tp.1]; rfl, by rw [dep_app]; omega⟩
        · exact rest a (List.mem_cons_of_mem _ ha)
      · rename_i c7
        have d2 : dep below < D := by
          by_cases z : D ≤ dep below
          · exact absurd (.inr z) c7
          · omega
        refine ⟨fun a ha => ?_, by simp only [List.map_cons, List.sum_cons, wt]; omega, by simp⟩
        rcases List.mem_cons.mp ha with rfl | ha
        · exact ⟨by simp only [okB, ht, bl.1, tp.1, Bool.and_self], by simp only [dep]; omega⟩
        · exact rest a (List.mem_cons_of_mem _ ha)
theorem step_len (kind D : Nat) (t : PD) (l : Blk) (R : List Blk) : (stepR kind t l D R).length ≤ R.length + 1 := by
  cases R with
  | nil => simp [stepR]
  | cons top R =>
    rw [stepR, stepTop]
    have z : (stepLow kind t l top D R).length ≤ (top :: R).length + 1 := by
      cases R with
      | nil => simp only [stepLow, List.length_cons, List.length_nil]; omega
      | cons below R' =>
        rw [stepLow]
        split <;> simp only [List.length_cons] <;> omega
    repeat' split
    all_goals (first | (simp only [List.length_cons]; omega) | exact z)
end Lw

set_option Elab.async false
set_option linter.all false
set_option maxRecDepth 100000
set_option maxHeartbeats 2000000
namespace Lw
open PySem PySem.Spec PyProof.Rows L2 Dv
theorem run21 (k : Nat) (as : DEn) : fnK rs gl0 (k + 1) 21 as = runF ⟨fnK rs gl0 k, gl0⟩ 4 11 ir__law_grown as := rfl
theorem prL (ds : List PD) : prD .len [.list ds] = some (.val (.int ds.length)) := rfl
theorem tN_fold (n : Nat) : PyData.tuple [.str "name", .str ("t" ++ S n)] = tN n := rfl
theorem inn_fold : PyData.tuple [.str "inner"] = inn := rfl
theorem app_nil : ∀ o, app o .nil = o
  | .nil => rfl
  | .simp _ _ r => by simp only [app, app_nil r]
  | .inner r => by simp only [app, app_nil r]
  | .ife _ _ _ r => by simp only [app, app_nil r]
  | .whl _ _ r => by simp only [app, app_nil r]
theorem flt_loop (C : Cfg) (o : Blk) (a0 a1 a2 a3 a4 a5 a6 a7 a8 a10 : Slo) : ∀ (As : List Blk) (acc : List PD), acc.length + As.length ≤ 100000 →
    cmS C (.var 9) (.sub (.sub (.var 9) (.int 0)) (.int 3)) (.var 9) [a0, a1, a2, a3, a4, a5, a6, a7, a8, .un, a10] (As.map (prO o)) acc = some (acc ++ (As.filter hasI).map (prO o))
  | [], acc, _ => by simp only [List.map_nil, List.filter_nil, cmS_nil, List.append_nil]
  | a :: As, acc, h => by
    simp only [List.length_cons] at h
    have l' : acc.length < 16777216 := by omega
    cases hi : hasI a with
    | true =>
      have i := flt_loop C o a0 a1 a2 a3 a4 a5 a6 a7 a8 a10 As (acc ++ [prO o a]) (by simp only [List.length_append, List.length_cons, List.length_nil]; omega)
      have s3 := sq3 a
      rw [hi] at s3
      simp only [List.filter_cons, List.map_cons, hi, runF, tagA, outsA, oXt_non, oXf_non, oXt_bl, oXf_bl, oXt_int, oXf_int, oXt_str, oXf_str, oXt_glb, oXf_glb, oXt_bin, oXf_bin, oXt_neg, oXf_neg, oXt_not, oXf_not, oXt_cmp, oXf_cmp, oXt_chain, oXf_chain, oXt_and, oXf_and, oXt_or, oXf_or, oXt_ife, oXf_ife, oXt_sub, oXf_sub, oXt_slc, oXf_slc, oXt_rev, oXf_rev, oXt_tup, oXf_tup, oXt_lst, oXf_lst, oXt_call, oXf_call, oXt_prim, oXf_prim, oXt_isi, oXf_isi, oXt_comp, oXf_comp, oXt_app, oXf_app, oXt_ext, oXf_ext, oXt_pop, oXf_pop, oXf_var, oXt_var, oX_lend, eX_var, eX_non, eX_bl, eX_int, eX_str, eX_glb, eX_bin, eX_neg, eX_not, eX_cmp, eX_chain, eX_and, eX_or, eX_ife, eX_sub, eX_slc, eX_rev, eX_tup, eX_lst, eX_call, eX_prim, eX_isi, eX_comp, eX_app, eX_ext, eX_pop, eP_nil, eP_cons, eL_nil, eL_cons, eI_rng1, eI_rng2, eI_cons, eS_nil, eS_cons, eS_set, eS_unp, eS_sti, eS_ex, eS_ifs, eS_whl, eS_fors, eS_brk, eS_cnt, eS_pas, eS_retv, eS_ret_non, eS_ret_bl, eS_ret_int, eS_ret_str, eS_ret_glb, eS_ret_bin, eS_ret_neg, eS_ret_not, eS_ret_cmp, eS_ret_chain, eS_ret_and, eS_ret_or, eS_ret_ife, eS_ret_sub, eS_ret_slc, eS_ret_rev, eS_ret_tup, eS_ret_lst, eS_ret_call, eS_ret_prim, eS_ret_isi, eS_ret_comp, eS_ret_app, eS_ret_ext, eS_ret_pop, lpS_nil, lpS_cons, cmS_nil, cmS_cons, rdO, rdS, rdAll, frz, valsOf, argsOf, slotsOf, putBack, slD, prD, seqD, asg, asgs, bopD, copD, eqD, truS, List.mapIdx_cons, List.mapIdx_nil, List.getElem?_cons_zero, List.getElem?_cons_succ, List.set_cons_zero, List.set_cons_succ, List.length_cons, List.length_nil, List.cons_append, List.nil_append, List.replicate_zero, List.replicate_succ, List.append_nil, List.nodup_nil, List.nodup_cons, List.not_mem_nil, Nat.sub_self, Nat.add_one_sub_one, Nat.zero_lt_succ, if_true, if_false, eq_self_iff_true, reduceIte, reduceCtorEq, Nat.zero_le, slv, not_false_eq_true, and_self, and_true, true_and, List.singleton_append, Bool.not_true, Bool.not_false, List.foldl_nil, ite_true, ite_false, beq_self_eq_true, Nat.reduceAdd, Nat.reduceLT, Nat.reduceLeDiff, Nat.reduceSub, Nat.reduceEqDiff, Nat.reduceMul, Int.reduceAdd, Int.reduceLT, Int.reduceLE, Int.reduceNeg, Int.reduceEq, Int.reduceSub, decide_true, decide_false, decide_eq_true_eq, cond_true, cond_false, Int.reducePow, pr0, s3, l', i, List.append_assoc]
    | false =>
      have i := flt_loop C o a0 a1 a2 a3 a4 a5 a6 a7 a8 a10 As acc (by omega)
      have s3 := sq3 a
      rw [hi] at s3
      simp only [List.filter_cons, List.map_cons, hi, runF, tagA, outsA, oXt_non, oXf_non, oXt_bl, oXf_bl, oXt_int, oXf_int, oXt_str, oXf_str, oXt_glb, oXf_glb, oXt_bin, oXf_bin, oXt_neg, oXf_neg, oXt_not, oXf_not, oXt_cmp, oXf_cmp, oXt_chain, oXf_chain, oXt_and, oXf_and, oXt_or, oXf_or, oXt_ife, oXf_ife, oXt_sub, oXf_sub, oXt_slc, oXf_slc, oXt_rev, oXf_rev, oXt_tup, oXf_tup, oXt_lst, oXf_lst, oXt_call, oXf_call, oXt_prim, oXf_prim, oXt_isi, oXf_isi, oXt_comp, oXf_comp, oXt_app, oXf_app, oXt_ext, oXf_ext, oXt_pop, oXf_pop, oXf_var, oXt_var, oX_lend, eX_var, eX_non, eX_bl, eX_int, eX_str, eX_glb, eX_bin, eX_neg, eX_not, eX_cmp, eX_chain, eX_and, eX_or, eX_ife, eX_sub, eX_slc, eX_rev, eX_tup, eX_lst, eX_call, eX_prim, eX_isi, eX_comp, eX_app, eX_ext, eX_pop, eP_nil, eP_cons, eL_nil, eL_cons, eI_rng1, eI_rng2, eI_cons, eS_nil, eS_cons, eS_set, eS_unp, eS_sti, eS_ex, eS_ifs, eS_whl, eS_fors, eS_brk, eS_cnt, eS_pas, eS_retv, eS_ret_non, eS_ret_bl, eS_ret_int, eS_ret_str, eS_ret_glb, eS_ret_bin, eS_ret_neg, eS_ret_not, eS_ret_cmp, eS_ret_chain, eS_ret_and, eS_ret_or, eS_ret_ife, eS_ret_sub, eS_ret_slc, eS_ret_rev, eS_ret_tup, eS_ret_lst, eS_ret_call, eS_ret_prim, eS_ret_isi, eS_ret_comp, eS_ret_app, eS_ret_ext, eS_ret_pop, lpS_nil, lpS_cons, cmS_nil, cmS_cons, rdO, rdS, rdAll, frz, valsOf, argsOf, slotsOf, putBack, slD, prD, seqD, asg, asgs, bopD, copD, eqD, truS, List.mapIdx_cons, List.mapIdx_nil, List.getElem?_cons_zero, List.getElem?_cons_succ, List.set_cons_zero, List.set_cons_succ, List.length_cons, List.length_nil, List.cons_append, List.nil_append, List.replicate_zero, List.replicate_succ, List.append_nil, List.nodup_nil, List.nodup_cons, List.not_mem_nil, Nat.sub_self, Nat.add_one_sub_one, Nat.zero_lt_succ, if_true, if_false, eq_self_iff_true, reduceIte, reduceCtorEq, Nat.zero_le, slv, not_false_eq_true, and_self, and_true, true_and, List.singleton_append, Bool.not_true, Bool.not_false, List.foldl_nil, ite_true, ite_false, beq_self_eq_true, Nat.reduceAdd, Nat.reduceLT, Nat.reduceLeDiff, Nat.reduceSub, Nat.reduceEqDiff, Nat.reduceMul, Int.reduceAdd, Int.reduceLT, Int.reduceLE, Int.reduceNeg, Int.reduceEq, Int.reduceSub, decide_true, decide_false, decide_eq_true_eq, cond_true, cond_false, Int.reducePow, pr0, s3, i, Bool.false_eq_true]
theorem Keep.up {D W W' : Nat} {R : List Blk} (h : Keep D W R) (l : W ≤ W') : Keep D W' R := ⟨h.ok, Nat.le_trans h.w l, h.ne⟩
theorem wt_mem {R : List Blk} {a : Blk} (h : a ∈ R) : wt a ≤ (R.map wt).sum := by
  induction R with
  | nil => cases h
  | cons b R ih =>
    simp only [List.map_cons, List.sum_cons]
    rcases List.mem_cons.mp h with rfl | h
    · omega
    · have := ih h; omega
theorem sm_of {o a : Blk} (ha : wt a ≤ 100) (ho : wt o ≤ 90) : sm o a := by
  have f := wt_fill a o
  have g : wt a * (1 + wt o) ≤ 100 * 91 := Nat.mul_le_mul ha (by omega)
  exact ⟨by omega, by omega⟩
theorem dAt {ds : List Nat} {i : Nat} {j : Int} (h : i < ds.length) (e : j = (i : Int)) : atI (ds.map iN) j = some (.int ((ds.getD i 0 : Nat) : Int)) := by
  rw [e]
  refine atN ?_
  rw [List.getElem?_map, List.getD_eq_getElem?_getD, List.getElem?_eq_getElem h]
  rfl
theorem grow_step {K : Nat} (hK : 3 ≤ K) (ds : List Nat) (hds : ds.length = 41) (number D W k : Nat) (hk : k < 20) (hnum : number ≤ 50) (R : List Blk) (hKeep : Keep D W R) (hW : W ≤ 98) (hlen : R.length ≤ 900) (hD : 1 ≤ D) :
    ∃ R', Keep D (W + 2) R' ∧ R'.length ≤ R.length + 1 ∧ ∀ (o : Blk) (_ : wt o ≤ 90) (cell s7 s8 s9 s10 : Slo), ∃ t7 t8, evS ⟨fnK rs gl0 K, gl0⟩ (.cons (.set 7 false (.call 19 (.cons (.sub (.var 4) (.bin .add (.bin .mul (.int 2) (.var 6)) (.int 1))) (.cons (.bin .add (.var 2) (.var 6)) .nil)))) (.cons (.set 8 false (.lst (.cons (.call 14 (.cons (.var 7) .nil)) (.cons (.call 14 (.cons (.var 7) .nil)) .nil)))) (.cons (.ifs (.and (.cmp .eq (.bin .mod (.prim .int (.cons (.bin .div (.sub (.var 4) (.bin .add (.bin .mul (.int 2) (.var 6)) (.int 1))) (.int 17)) .nil)) (.int 6)) (.int 0)) (.cmp .eq (.prim .len (.cons (.comp (.var 9) (.cons (.var 5) .nil) (.sub (.sub (.var 9) (.int 0)) (.int 3)) (.var 9) [9]) .nil)) (.int 0))) (.cons (.set 8 false (.lst (.cons (.call 14 (.cons (.tup (.cons (.str "inner") .nil)) .nil)) (.cons (.var 3) .nil)))) .nil) .nil) (.cons (.ex (.call 20 (.cons (.lend 5) (.cons (.bin .mod (.prim .int (.cons (.sub (.var 4) (.bin .mul (.int 2) (.var 6))) .nil)) (.int 12)) (.cons (.tup (.cons (.str "name") (.cons (.bin .add (.str "t") (.prim .str (.cons (.bin .add (.var 2) (.var 6)) .nil))) .nil))) (.cons (.var 8) (.cons (.var 1) .nil))))))) .nil)))) [cell, .val (.int (D : Int)), .val (.int (number : Int)), .val (pc o), .val (.list (ds.map iN)), .own none (hp o R), .val (.int (k : Int)), s7, s8, s9, s10] =
      some (.nx [cell, .val (.int (D : Int)), .val (.int (number : Int)), .val (pc o), .val (.list (ds.map iN)), .own none (hp o R'), .val (.int (k : Int)), t7, t8, s9, s10]) := by
  have hd1 := dAt (ds := ds) (i := 2 * k + 1) (j := 2 * (k : Int) + 1) (by omega) (by omega)
  have hd0 := dAt (ds := ds) (i := 2 * k) (j := 2 * (k : Int)) (by omega) (by omega)
  generalize ds.getD (2 * k + 1) 0 = d1 at hd1
  generalize ds.getD (2 * k) 0 = d0 at hd0
  obtain ⟨h, xs, ok, es⟩ := simple_ok (K := K) (by omega) d1 (number + k) (by omega)
  have tk := tN_ok (n := number + k) (by omega)
  have bm : bopD .mul (.int 2) (.int (k : Int)) = some (.val (.int (2 * (k : Int)))) := by
    simp only [bopD]
    rw [if_pos (.inl (by decide +kernel))]
  have ba : bopD .add (.int (2 * (k : Int))) (.int 1) = some (.val (.int (2 * (k : Int) + 1))) := rfl
  have bn : bopD .add (.int (number : Int)) (.int (k : Int)) = some (.val (.int ((number + k : Nat) : Int))) := rfl
  have bd : bopD .div (.int (d1 : Int)) (.int 17) = some (.val (.int ((d1 : Int) / 17))) := by
    simp only [bopD]
    rw [if_pos (by decide)]
  have b6 : bopD .mod (.int ((d1 : Int) / 17)) (.int 6) = some (.val (.int ((d1 : Int) / 17 % 6))) := by
    simp only [bopD]
    rw [if_pos (by decide)]
  have b12 : bopD .mod (.int (d0 : Int)) (.int 12) = some (.val (.int ((d0 % 12 : Nat) : Int))) := by
    simp only [bopD]
    rw [if_pos (by decide)]
    rfl
  have cs := catS (n := number + k) (by omega) "t" (by decide)
  have ps := prS (n := number + k) (by omega)
  have ls := lone_simp (K := K) (by omega) ok
  have li := lone_inn (K := K) (by omega)
  have all : ∀ o, wt o ≤ 90 → ∀ a ∈ R, sm o a := fun o ho a ha => sm_of (Nat.le_trans (wt_mem ha) (Nat.le_trans hKeep.w (by omega))) ho
  obtain ⟨top, R0, rfl⟩ : ∃ top R0, R = top :: R0 := by
    cases R with
    | nil => exact absurd rfl hKeep.ne
    | cons top R0 => exact ⟨top, R0, rfl⟩
  simp only [List.length_cons] at hlen
  have comp : ∀ (o : Blk) (cell s10 s9 : Slo), evX ⟨fnK rs gl0 K, gl0⟩ (.comp (.var 9) (.cons (.var 5) .nil) (.sub (.sub (.var 9) (.int 0)) (.int 3)) (.var 9) [9]) [cell, .val (.int (D : Int)), .val (.int (number : Int)), .val (pc o), .val (.list (ds.map iN)), .own none (hp o (top :: R0)), .val (.int (k : Int)), .val (.tuple (.str h :: xs)), .val (prO o (.simp h xs .nil)), s9, s10] =
      some (.own none (((top :: R0).reverse.filter hasI).map (prO o)), [cell, .val (.int (D : Int)), .val (.int (number : Int)), .val (pc o), .val (.list (ds.map iN)), .own none (hp o (top :: R0)), .val (.int (k : Int)), .val (.tuple (.str h :: xs)), .val (prO o (.simp h xs .nil)), s9, s10]) := by
    intro o cell s10 s9
    have f := flt_loop ⟨fnK rs gl0 K, gl0⟩ o (blk1 cell) (.val (.int (D : Int))) (.val (.int (number : Int))) (.val (pc o)) (.val (.list (ds.map iN))) .un (.val (.int (k : Int))) (.val (.tuple (.str h :: xs))) (.val (prO o (.simp h xs .nil))) (blk1 s10) (top :: R0).reverse [] (by simp only [List.length_nil, List.length_reverse, List.length_cons]; omega)
    rw [List.nil_append] at f
    have f' : List.map (prO o) (top :: R0).reverse = hp o (top :: R0) := rfl
    rw [f'] at f
    have b : blkD [cell, .val (.int (D : Int)), .val (.int (number : Int)), .val (pc o), .val (.list (ds.map iN)), .own none (hp o (top :: R0)), .val (.int (k : Int)), .val (.tuple (.str h :: xs)), .val (prO o (.simp h xs .nil)), s9, s10] [9] = [blk1 cell, .val (.int (D : Int)), .val (.int (number : Int)), .val (pc o), .val (.list (ds.map iN)), .un, .val (.int (k : Int)), .val (.tuple (.str h :: xs)), .val (prO o (.simp h xs .nil)), .un, blk1 s10] := rfl
    simp only [runF, tagA, outsA, oXt_non, oXf_non, oXt_bl, oXf_bl, oXt_int, oXf_int, oXt_str, oXf_str, oXt_glb, oXf_glb, oXt_bin, oXf_bin, oXt_neg, oXf_neg, oXt_not, oXf_not, oXt_cmp, oXf_cmp, oXt_chain, oXf_chain, oXt_and, oXf_and, oXt_or, oXf_or, oXt_ife, oXf_ife, oXt_sub, oXf_sub, oXt_slc, oXf_slc, oXt_rev, oXf_rev, oXt_tup, oXf_tup, oXt_lst, oXf_lst, oXt_call, oXf_call, oXt_prim, oXf_prim, oXt_isi, oXf_isi, oXt_comp, oXf_comp, oXt_app, oXf_app, oXt_ext, oXf_ext, oXt_pop, oXf_pop, oXf_var, oXt_var, oX_lend, eX_var, eX_non, eX_bl, eX_int, eX_str, eX_glb, eX_bin, eX_neg, eX_not, eX_cmp, eX_chain, eX_and, eX_or, eX_ife, eX_sub, eX_slc, eX_rev, eX_tup, eX_lst, eX_call, eX_prim, eX_isi, eX_comp, eX_app, eX_ext, eX_pop, eP_nil, eP_cons, eL_nil, eL_cons, eI_rng1, eI_rng2, eI_cons, eS_nil, eS_cons, eS_set, eS_unp, eS_sti, eS_ex, eS_ifs, eS_whl, eS_fors, eS_brk, eS_cnt, eS_pas, eS_retv, eS_ret_non, eS_ret_bl, eS_ret_int, eS_ret_str, eS_ret_glb, eS_ret_bin, eS_ret_neg, eS_ret_not, eS_ret_cmp, eS_ret_chain, eS_ret_and, eS_ret_or, eS_ret_ife, eS_ret_sub, eS_ret_slc, eS_ret_rev, eS_ret_tup, eS_ret_lst, eS_ret_call, eS_ret_prim, eS_ret_isi, eS_ret_comp, eS_ret_app, eS_ret_ext, eS_ret_pop, lpS_nil, lpS_cons, cmS_nil, cmS_cons, rdO, rdS, rdAll, frz, valsOf, argsOf, slotsOf, putBack, subD, slD, prD, seqD, asg, asgs, bopD, copD, eqD, truS, List.mapIdx_cons, List.mapIdx_nil, List.getElem?_cons_zero, List.getElem?_cons_succ, List.set_cons_zero, List.set_cons_succ, List.length_cons, List.length_nil, List.cons_append, List.nil_append, List.replicate_zero, List.replicate_succ, List.append_nil, List.nodup_nil, List.nodup_cons, List.not_mem_nil, Nat.sub_self, Nat.add_one_sub_one, Nat.zero_lt_succ, if_true, if_false, eq_self_iff_true, reduceIte, reduceCtorEq, Nat.zero_le, slv, not_false_eq_true, and_self, and_true, true_and, List.singleton_append, Bool.not_true, Bool.not_false, List.foldl_nil, ite_true, ite_false, beq_self_eq_true, Nat.reduceAdd, Nat.reduceLT, Nat.reduceLeDiff, Nat.reduceSub, Nat.reduceEqDiff, Nat.reduceMul, Int.reduceAdd, Int.reduceLT, Int.reduceLE, Int.reduceNeg, Int.reduceEq, Int.reduceSub, decide_true, decide_false, decide_eq_true_eq, cond_true, cond_false, Int.reducePow, b, f]
  have pOs : ∀ o, PyData.list [pc (.simp h xs .nil), pc (.simp h xs .nil)] = prO o (.simp h xs .nil) := fun o => rfl
  have pOi : ∀ o, PyData.list [pc (.inner .nil), pc o] = prO o (.inner .nil) := fun o => by
    simp only [prO, fillB, app_nil]
  -- which statement stands alone
  have fin : ∀ l : Blk, okB l = true → dep l = 1 → wt l ≤ 1 → (∀ (o : Blk) (cell s7 s8 s9 s10 : Slo), wt o ≤ 90 → evS ⟨fnK rs gl0 K, gl0⟩ (.ifs (.and (.cmp .eq (.bin .mod (.prim .int (.cons (.bin .div (.sub (.var 4) (.bin .add (.bin .mul (.int 2) (.var 6)) (.int 1))) (.int 17)) .nil)) (.int 6)) (.int 0)) (.cmp .eq (.prim .len (.cons (.comp (.var 9) (.cons (.var 5) .nil) (.sub (.sub (.var 9) (.int 0)) (.int 3)) (.var 9) [9]) .nil)) (.int 0))) (.cons (.set 8 false (.lst (.cons (.call 14 (.cons (.tup (.cons (.str "inner") .nil)) .nil)) (.cons (.var 3) .nil)))) .nil) .nil) [cell, .val (.int (D : Int)), .val (.int (number : Int)), .val (pc o), .val (.list (ds.map iN)), .own none (hp o (top :: R0)), .val (.int (k : Int)), .val (.tuple (.str h :: xs)), .val (prO o (.simp h xs .nil)), s9, s10] = some (.nx [cell, .val (.int (D : Int)), .val (.int (number : Int)), .val (pc o), .val (.list (ds.map iN)), .own none (hp o (top :: R0)), .val (.int (k : Int)), .val (.tuple (.str h :: xs)), .val (prO o l), s9, s10])) →
      ∃ R', Keep D (W + 2) R' ∧ R'.length ≤ (top :: R0).length + 1 ∧ ∀ (o : Blk) (_ : wt o ≤ 90) (cell s7 s8 s9 s10 : Slo), ∃ t7 t8, evS ⟨fnK rs gl0 K, gl0⟩ (.cons (.set 7 false (.call 19 (.cons (.sub (.var 4) (.bin .add (.bin .mul (.int 2) (.var 6)) (.int 1))) (.cons (.bin .add (.var 2) (.var 6)) .nil)))) (.cons (.set 8 false (.lst (.cons (.call 14 (.cons (.var 7) .nil)) (.cons (.call 14 (.cons (.var 7) .nil)) .nil)))) (.cons (.ifs (.and (.cmp .eq (.bin .mod (.prim .int (.cons (.bin .div (.sub (.var 4) (.bin .add (.bin .mul (.int 2) (.var 6)) (.int 1))) (.int 17)) .nil)) (.int 6)) (.int 0)) (.cmp .eq (.prim .len (.cons (.comp (.var 9) (.cons (.var 5) .nil) (.sub (.sub (.var 9) (.int 0)) (.int 3)) (.var 9) [9]) .nil)) (.int 0))) (.cons (.set 8 false (.lst (.cons (.call 14 (.cons (.tup (.cons (.str "inner") .nil)) .nil)) (.cons (.var 3) .nil)))) .nil) .nil) (.cons (.ex (.call 20 (.cons (.lend 5) (.cons (.bin .mod (.prim .int (.cons (.sub (.var 4) (.bin .mul (.int 2) (.var 6))) .nil)) (.int 12)) (.cons (.tup (.cons (.str "name") (.cons (.bin .add (.str "t") (.prim .str (.cons (.bin .add (.var 2) (.var 6)) .nil))) .nil))) (.cons (.var 8) (.cons (.var 1) .nil))))))) .nil)))) [cell, .val (.int (D : Int)), .val (.int (number : Int)), .val (pc o), .val (.list (ds.map iN)), .own none (hp o (top :: R0)), .val (.int (k : Int)), s7, s8, s9, s10] =
        some (.nx [cell, .val (.int (D : Int)), .val (.int (number : Int)), .val (pc o), .val (.list (ds.map iN)), .own none (hp o R'), .val (.int (k : Int)), t7, t8, s9, s10]) := by
    intro l okl dl wl s3
    refine ⟨stepR (d0 % 12) (tN (number + k)) l D (top :: R0), step_keep hKeep tk okl dl wl hD, step_len .., fun o ho cell s7 s8 s9 s10 => ⟨.val (.tuple (.str h :: xs)), .val (prO o l), ?_⟩⟩
    have st := step_ok hK o l top R0 (d0 % 12) D (tN (number + k)) (sm_of (by omega) ho) (all o ho top (List.mem_cons_self ..)) (fun a ha => all o ho a (List.mem_cons_of_mem _ ha)) (by omega)
    have s3' := s3 o cell s7 s8 s9 s10 ho
    have e1 : evS ⟨fnK rs gl0 K, gl0⟩ (.set 7 false (.call 19 (.cons (.sub (.var 4) (.bin .add (.bin .mul (.int 2) (.var 6)) (.int 1))) (.cons (.bin .add (.var 2) (.var 6)) .nil)))) [cell, .val (.int (D : Int)), .val (.int (number : Int)), .val (pc o), .val (.list (ds.map iN)), .own none (hp o (top :: R0)), .val (.int (k : Int)), s7, s8, s9, s10] = some (.nx [cell, .val (.int (D : Int)), .val (.int (number : Int)), .val (pc o), .val (.list (ds.map iN)), .own none (hp o (top :: R0)), .val (.int (k : Int)), .val (.tuple (.str h :: xs)), s8, s9, s10]) := by
      simp only [runF, tagA, outsA, oXt_non, oXf_non, oXt_bl, oXf_bl, oXt_int, oXf_int, oXt_str, oXf_str, oXt_glb, oXf_glb, oXt_bin, oXf_bin, oXt_neg, oXf_neg, oXt_not, oXf_not, oXt_cmp, oXf_cmp, oXt_chain, oXf_chain, oXt_and, oXf_and, oXt_or, oXf_or, oXt_ife, oXf_ife, oXt_sub, oXf_sub, oXt_slc, oXf_slc, oXt_rev, oXf_rev, oXt_tup, oXf_tup, oXt_lst, oXf_lst, oXt_call, oXf_call, oXt_prim, oXf_prim, oXt_isi, oXf_isi, oXt_comp, oXf_comp, oXt_app, oXf_app, oXt_ext, oXf_ext, oXt_pop, oXf_pop, oXf_var, oXt_var, oX_lend, eX_var, eX_non, eX_bl, eX_int, eX_str, eX_glb, eX_bin, eX_neg, eX_not, eX_cmp, eX_chain, eX_and, eX_or, eX_ife, eX_sub, eX_slc, eX_rev, eX_tup, eX_lst, eX_call, eX_prim, eX_isi, eX_app, eX_ext, eX_pop, eP_nil, eP_cons, eL_nil, eL_cons, eI_rng2, eI_cons, eS_nil, eS_cons, eS_set, eS_unp, eS_sti, eS_ex, eS_ifs, eS_whl, eS_fors, eS_brk, eS_cnt, eS_pas, eS_retv, eS_ret_non, eS_ret_bl, eS_ret_int, eS_ret_str, eS_ret_glb, eS_ret_bin, eS_ret_neg, eS_ret_not, eS_ret_cmp, eS_ret_chain, eS_ret_and, eS_ret_or, eS_ret_ife, eS_ret_sub, eS_ret_slc, eS_ret_rev, eS_ret_tup, eS_ret_lst, eS_ret_call, eS_ret_prim, eS_ret_isi, eS_ret_comp, eS_ret_app, eS_ret_ext, eS_ret_pop, lpS_nil, lpS_cons, cmS_nil, cmS_cons, rdO, rdS, rdAll, frz, valsOf, argsOf, slotsOf, putBack, subD, slD, seqD, asg, asgs, copD, eqD, truS, List.mapIdx_cons, List.mapIdx_nil, List.getElem?_cons_zero, List.getElem?_cons_succ, List.set_cons_zero, List.set_cons_succ, List.length_cons, List.length_nil, List.cons_append, List.nil_append, List.replicate_zero, List.replicate_succ, List.append_nil, List.nodup_nil, List.nodup_cons, List.not_mem_nil, Nat.sub_self, Nat.add_one_sub_one, Nat.zero_lt_succ, if_true, if_false, eq_self_iff_true, reduceIte, reduceCtorEq, Nat.zero_le, slv, not_false_eq_true, and_self, and_true, true_and, List.singleton_append, Bool.not_true, Bool.not_false, List.foldl_nil, ite_true, ite_false, beq_self_eq_true, Nat.reduceAdd, Nat.reduceLT, Nat.reduceLeDiff, Nat.reduceSub, Nat.reduceEqDiff, Nat.reduceMul, Int.reduceAdd, Int.reduceLT, Int.reduceLE, Int.reduceNeg, Int.reduceEq, Int.reduceSub, decide_true, decide_false, decide_eq_true_eq, cond_true, cond_false, Int.reducePow, bm, ba, bn, hd1, es]
    have e2 : evS ⟨fnK rs gl0 K, gl0⟩ (.set 8 false (.lst (.cons (.call 14 (.cons (.var 7) .nil)) (.cons (.call 14 (.cons (.var 7) .nil)) .nil)))) [cell, .val (.int (D : Int)), .val (.int (number : Int)), .val (pc o), .val (.list (ds.map iN)), .own none (hp o (top :: R0)), .val (.int (k : Int)), .val (.tuple (.str h :: xs)), s8, s9, s10] = some (.nx [cell, .val (.int (D : Int)), .val (.int (number : Int)), .val (pc o), .val (.list (ds.map iN)), .own none (hp o (top :: R0)), .val (.int (k : Int)), .val (.tuple (.str h :: xs)), .val (prO o (.simp h xs .nil)), s9, s10]) := by
      simp only [runF, tagA, outsA, oXt_non, oXf_non, oXt_bl, oXf_bl, oXt_int, oXf_int, oXt_str, oXf_str, oXt_glb, oXf_glb, oXt_bin, oXf_bin, oXt_neg, oXf_neg, oXt_not, oXf_not, oXt_cmp, oXf_cmp, oXt_chain, oXf_chain, oXt_and, oXf_and, oXt_or, oXf_or, oXt_ife, oXf_ife, oXt_sub, oXf_sub, oXt_slc, oXf_slc, oXt_rev, oXf_rev, oXt_tup, oXf_tup, oXt_lst, oXf_lst, oXt_call, oXf_call, oXt_prim, oXf_prim, oXt_isi, oXf_isi, oXt_comp, oXf_comp, oXt_app, oXf_app, oXt_ext, oXf_ext, oXt_pop, oXf_pop, oXf_var, oXt_var, oX_lend, eX_var, eX_non, eX_bl, eX_int, eX_str, eX_glb, eX_bin, eX_neg, eX_not, eX_cmp, eX_chain, eX_and, eX_or, eX_ife, eX_sub, eX_slc, eX_rev, eX_tup, eX_lst, eX_call, eX_prim, eX_isi, eX_app, eX_ext, eX_pop, eP_nil, eP_cons, eL_nil, eL_cons, eI_rng2, eI_cons, eS_nil, eS_cons, eS_set, eS_unp, eS_sti, eS_ex, eS_ifs, eS_whl, eS_fors, eS_brk, eS_cnt, eS_pas, eS_retv, eS_ret_non, eS_ret_bl, eS_ret_int, eS_ret_str, eS_ret_glb, eS_ret_bin, eS_ret_neg, eS_ret_not, eS_ret_cmp, eS_ret_chain, eS_ret_and, eS_ret_or, eS_ret_ife, eS_ret_sub, eS_ret_slc, eS_ret_rev, eS_ret_tup, eS_ret_lst, eS_ret_call, eS_ret_prim, eS_ret_isi, eS_ret_comp, eS_ret_app, eS_ret_ext, eS_ret_pop, lpS_nil, lpS_cons, cmS_nil, cmS_cons, rdO, rdS, rdAll, frz, valsOf, argsOf, slotsOf, putBack, subD, slD, seqD, asg, asgs, copD, eqD, truS, List.mapIdx_cons, List.mapIdx_nil, List.getElem?_cons_zero, List.getElem?_cons_succ, List.set_cons_zero, List.set_cons_succ, List.length_cons, List.length_nil, List.cons_append, List.nil_append, List.replicate_zero, List.replicate_succ, List.append_nil, List.nodup_nil, List.nodup_cons, List.not_mem_nil, Nat.sub_self, Nat.add_one_sub_one, Nat.zero_lt_succ, if_true, if_false, eq_self_iff_true, reduceIte, reduceCtorEq, Nat.zero_le, slv, not_false_eq_true, and_self, and_true, true_and, List.singleton_append, Bool.not_true, Bool.not_false, List.foldl_nil, ite_true, ite_false, beq_self_eq_true, Nat.reduceAdd, Nat.reduceLT, Nat.reduceLeDiff, Nat.reduceSub, Nat.reduceEqDiff, Nat.reduceMul, Int.reduceAdd, Int.reduceLT, Int.reduceLE, Int.reduceNeg, Int.reduceEq, Int.reduceSub, decide_true, decide_false, decide_eq_true_eq, cond_true, cond_false, Int.reducePow, ls, pc_fold, pOs o]
    have e4 : evS ⟨fnK rs gl0 K, gl0⟩ (.ex (.call 20 (.cons (.lend 5) (.cons (.bin .mod (.prim .int (.cons (.sub (.var 4) (.bin .mul (.int 2) (.var 6))) .nil)) (.int 12)) (.cons (.tup (.cons (.str "name") (.cons (.bin .add (.str "t") (.prim .str (.cons (.bin .add (.var 2) (.var 6)) .nil))) .nil))) (.cons (.var 8) (.cons (.var 1) .nil))))))) [cell, .val (.int (D : Int)), .val (.int (number : Int)), .val (pc o), .val (.list (ds.map iN)), .own none (hp o (top :: R0)), .val (.int (k : Int)), .val (.tuple (.str h :: xs)), .val (prO o l), s9, s10] = some (.nx [cell, .val (.int (D : Int)), .val (.int (number : Int)), .val (pc o), .val (.list (ds.map iN)), .own none (hp o (stepR (d0 % 12) (tN (number + k)) l D (top :: R0))), .val (.int (k : Int)), .val (.tuple (.str h :: xs)), .val (prO o l), s9, s10]) := by
      simp only [runF, tagA, outsA, oXt_non, oXf_non, oXt_bl, oXf_bl, oXt_int, oXf_int, oXt_str, oXf_str, oXt_glb, oXf_glb, oXt_bin, oXf_bin, oXt_neg, oXf_neg, oXt_not, oXf_not, oXt_cmp, oXf_cmp, oXt_chain, oXf_chain, oXt_and, oXf_and, oXt_or, oXf_or, oXt_ife, oXf_ife, oXt_sub, oXf_sub, oXt_slc, oXf_slc, oXt_rev, oXf_rev, oXt_tup, oXf_tup, oXt_lst, oXf_lst, oXt_call, oXf_call, oXt_prim, oXf_prim, oXt_isi, oXf_isi, oXt_comp, oXf_comp, oXt_app, oXf_app, oXt_ext, oXf_ext, oXt_pop, oXf_pop, oXf_var, oXt_var, oX_lend, eX_var, eX_non, eX_bl, eX_int, eX_str, eX_glb, eX_bin, eX_neg, eX_not, eX_cmp, eX_chain, eX_and, eX_or, eX_ife, eX_sub, eX_slc, eX_rev, eX_tup, eX_lst, eX_call, eX_prim, eX_isi, eX_app, eX_ext, eX_pop, eP_nil, eP_cons, eL_nil, eL_cons, eI_rng2, eI_cons, eS_nil, eS_cons, eS_set, eS_unp, eS_sti, eS_ex, eS_ifs, eS_whl, eS_fors, eS_brk, eS_cnt, eS_pas, eS_retv, eS_ret_non, eS_ret_bl, eS_ret_int, eS_ret_str, eS_ret_glb, eS_ret_bin, eS_ret_neg, eS_ret_not, eS_ret_cmp, eS_ret_chain, eS_ret_and, eS_ret_or, eS_ret_ife, eS_ret_sub, eS_ret_slc, eS_ret_rev, eS_ret_tup, eS_ret_lst, eS_ret_call, eS_ret_prim, eS_ret_isi, eS_ret_comp, eS_ret_app, eS_ret_ext, eS_ret_pop, lpS_nil, lpS_cons, cmS_nil, cmS_cons, rdO, rdS, rdAll, frz, valsOf, argsOf, slotsOf, putBack, subD, slD, seqD, asg, asgs, copD, eqD, truS, List.mapIdx_cons, List.mapIdx_nil, List.getElem?_cons_zero, List.getElem?_cons_succ, List.set_cons_zero, List.set_cons_succ, List.length_cons, List.length_nil, List.cons_append, List.nil_append, List.replicate_zero, List.replicate_succ, List.append_nil, List.nodup_nil, List.nodup_cons, List.not_mem_nil, Nat.sub_self, Nat.add_one_sub_one, Nat.zero_lt_succ, if_true, if_false, eq_self_iff_true, reduceIte, reduceCtorEq, Nat.zero_le, slv, not_false_eq_true, and_self, and_true, true_and, List.singleton_append, Bool.not_true, Bool.not_false, List.foldl_nil, ite_true, ite_false, beq_self_eq_true, Nat.reduceAdd, Nat.reduceLT, Nat.reduceLeDiff, Nat.reduceSub, Nat.reduceEqDiff, Nat.reduceMul, Int.reduceAdd, Int.reduceLT, Int.reduceLE, Int.reduceNeg, Int.reduceEq, Int.reduceSub, decide_true, decide_false, decide_eq_true_eq, cond_true, cond_false, Int.reducePow, bm, hd0, prI, b12, bn, ps, cs, tN_fold, st]
    rw [eS_cons, e1]
    dsimp only
    rw [eS_cons, e2]
    dsimp only
    rw [eS_cons, s3']
    dsimp only
    rw [eS_cons, e4]
    rfl
  by_cases c : ((d1 : Int) / 17 % 6 = 0) ∧ ((top :: R0).reverse.filter hasI).length = 0
  · refine fin (.inner .nil) rfl rfl (by simp only [wt]; omega) fun o cell s7 s8 s9 s10 ho => ?_
    have c1 : ((d1 : Int) / 17 % 6 == 0) = true := beqT c.1
    have c2 : ((((top :: R0).reverse.filter hasI).length : Int) == 0) = true := beqT (by omega)
    have q := comp o cell s10 s9
    have po := pOi o
    have fr : frz (.val (pc o)) = some (pc o) := rfl
    generalize List.filter hasI (top :: R0).reverse = F at *
    generalize hp o (top :: R0) = X at *
    generalize prO o (.simp h xs .nil) = Y at *
    simp only [runF, tagA, outsA, oXt_non, oXf_non, oXt_bl, oXf_bl, oXt_int, oXf_int, oXt_str, oXf_str, oXt_glb, oXf_glb, oXt_bin, oXf_bin, oXt_neg, oXf_neg, oXt_not, oXf_not, oXt_cmp, oXf_cmp, oXt_chain, oXf_chain, oXt_and, oXf_and, oXt_or, oXf_or, oXt_ife, oXf_ife, oXt_sub, oXf_sub, oXt_slc, oXf_slc, oXt_rev, oXf_rev, oXt_tup, oXf_tup, oXt_lst, oXf_lst, oXt_call, oXf_call, oXt_prim, oXf_prim, oXt_isi, oXf_isi, oXt_comp, oXf_comp, oXt_app, oXf_app, oXt_ext, oXf_ext, oXt_pop, oXf_pop, oXf_var, oXt_var, oX_lend, eX_var, eX_non, eX_bl, eX_int, eX_str, eX_glb, eX_bin, eX_neg, eX_not, eX_cmp, eX_chain, eX_and, eX_or, eX_ife, eX_sub, eX_slc, eX_rev, eX_tup, eX_lst, eX_call, eX_prim, eX_isi, eX_app, eX_ext, eX_pop, eP_nil, eP_cons, eL_nil, eL_cons, eI_rng2, eI_cons, eS_nil, eS_cons, eS_set, eS_unp, eS_sti, eS_ex, eS_ifs, eS_whl, eS_fors, eS_brk, eS_cnt, eS_pas, eS_retv, eS_ret_non, eS_ret_bl, eS_ret_int, eS_ret_str, eS_ret_glb, eS_ret_bin, eS_ret_neg, eS_ret_not, eS_ret_cmp, eS_ret_chain, eS_ret_and, eS_ret_or, eS_ret_ife, eS_ret_sub, eS_ret_slc, eS_ret_rev, eS_ret_tup, eS_ret_lst, eS_ret_call, eS_ret_prim, eS_ret_isi, eS_ret_comp, eS_ret_app, eS_ret_ext, eS_ret_pop, lpS_nil, lpS_cons, cmS_nil, cmS_cons, rdO, rdS, rdAll, frz, valsOf, argsOf, slotsOf, putBack, subD, slD, seqD, asg, asgs, copD, eqD, truS, List.mapIdx_cons, List.mapIdx_nil, List.getElem?_cons_zero, List.getElem?_cons_succ, List.set_cons_zero, List.set_cons_succ, List.length_cons, List.length_nil, List.cons_append, List.nil_append, List.replicate_zero, List.replicate_succ, List.append_nil, List.nodup_nil, List.nodup_cons, List.not_mem_nil, Nat.sub_self, Nat.add_one_sub_one, Nat.zero_lt_succ, if_true, if_false, eq_self_iff_true, reduceIte, reduceCtorEq, Nat.zero_le, slv, not_false_eq_true, and_self, and_true, true_and, List.singleton_append, Bool.not_true, Bool.not_false, List.foldl_nil, ite_true, ite_false, beq_self_eq_true, Nat.reduceAdd, Nat.reduceLT, Nat.reduceLeDiff, Nat.reduceSub, Nat.reduceEqDiff, Nat.reduceMul, Int.reduceAdd, Int.reduceLT, Int.reduceLE, Int.reduceNeg, Int.reduceEq, Int.reduceSub, decide_true, decide_false, decide_eq_true_eq, cond_true, cond_false, Int.reducePow, bm, ba, hd1, bd, prI, prL, b6, c1, q, List.length_map, c2, inn_fold, li, pc_fold, po]
  · refine fin (.simp h xs .nil) (by simp only [okB, ok, Bool.and_self]) rfl (by simp only [wt]; omega) fun o cell s7 s8 s9 s10 ho => ?_
    have q := comp o cell s10 s9
    generalize hF : List.filter hasI (top :: R0).reverse = F at *
    generalize hp o (top :: R0) = X at *
    generalize prO o (.simp h xs .nil) = Y at *
    by_cases c1 : (d1 : Int) / 17 % 6 = 0
    · have c1' : ((d1 : Int) / 17 % 6 == 0) = true := beqT c1
      have c2 : ((F.length : Int) == 0) = false := beqF (fun z => c ⟨c1, by omega⟩)
      simp only [runF, tagA, outsA, oXt_non, oXf_non, oXt_bl, oXf_bl, oXt_int, oXf_int, oXt_str, oXf_str, oXt_glb, oXf_glb, oXt_bin, oXf_bin, oXt_neg, oXf_neg, oXt_not, oXf_not, oXt_cmp, oXf_cmp, oXt_chain, oXf_chain, oXt_and, oXf_and, oXt_or, oXf_or, oXt_ife, oXf_ife, oXt_sub, oXf_sub, oXt_slc, oXf_slc, oXt_rev, oXf_rev, oXt_tup, oXf_tup, oXt_lst, oXf_lst, oXt_call, oXf_call, oXt_prim, oXf_prim, oXt_isi, oXf_isi, oXt_comp, oXf_comp, oXt_app, oXf_app, oXt_ext, oXf_ext, oXt_pop, oXf_pop, oXf_var, oXt_var, oX_lend, eX_var, eX_non, eX_bl, eX_int, eX_str, eX_glb, eX_bin, eX_neg, eX_not, eX_cmp, eX_chain, eX_and, eX_or, eX_ife, eX_sub, eX_slc, eX_rev, eX_tup, eX_lst, eX_call, eX_prim, eX_isi, eX_app, eX_ext, eX_pop, eP_nil, eP_cons, eL_nil, eL_cons, eI_rng2, eI_cons, eS_nil, eS_cons, eS_set, eS_unp, eS_sti, eS_ex, eS_ifs, eS_whl, eS_fors, eS_brk, eS_cnt, eS_pas, eS_retv, eS_ret_non, eS_ret_bl, eS_ret_int, eS_ret_str, eS_ret_glb, eS_ret_bin, eS_ret_neg, eS_ret_not, eS_ret_cmp, eS_ret_chain, eS_ret_and, eS_ret_or, eS_ret_ife, eS_ret_sub, eS_ret_slc, eS_ret_rev, eS_ret_tup, eS_ret_lst, eS_ret_call, eS_ret_prim, eS_ret_isi, eS_ret_comp, eS_ret_app, eS_ret_ext, eS_ret_pop, lpS_nil, lpS_cons, cmS_nil, cmS_cons, rdO, rdS, rdAll, frz, valsOf, argsOf, slotsOf, putBack, subD, slD, seqD, asg, asgs, copD, eqD, truS, List.mapIdx_cons, List.mapIdx_nil, List.getElem?_cons_zero, List.getElem?_cons_succ, List.set_cons_zero, List.set_cons_succ, List.length_cons, List.length_nil, List.cons_append, List.nil_append, List.replicate_zero, List.replicate_succ, List.append_nil, List.nodup_nil, List.nodup_cons, List.not_mem_nil, Nat.sub_self, Nat.add_one_sub_one, Nat.zero_lt_succ, if_true, if_false, eq_self_iff_true, reduceIte, reduceCtorEq, Nat.zero_le, slv, not_false_eq_true, and_self, and_true, true_and, List.singleton_append, Bool.not_true, Bool.not_false, List.foldl_nil, ite_true, ite_false, beq_self_eq_true, Nat.reduceAdd, Nat.reduceLT, Nat.reduceLeDiff, Nat.reduceSub, Nat.reduceEqDiff, Nat.reduceMul, Int.reduceAdd, Int.reduceLT, Int.reduceLE, Int.reduceNeg, Int.reduceEq, Int.reduceSub, decide_true, decide_false, decide_eq_true_eq, cond_true, cond_false, Int.reducePow, bm, ba, hd1, bd, prI, prL, b6, c1', q, List.length_map, c2]
    · have c1' : ((d1 : Int) / 17 % 6 == 0) = false := beqF c1
      simp only [runF, tagA, outsA, oXt_non, oXf_non, oXt_bl, oXf_bl, oXt_int, oXf_int, oXt_str, oXf_str, oXt_glb, oXf_glb, oXt_bin, oXf_bin, oXt_neg, oXf_neg, oXt_not, oXf_not, oXt_cmp, oXf_cmp, oXt_chain, oXf_chain, oXt_and, oXf_and, oXt_or, oXf_or, oXt_ife, oXf_ife, oXt_sub, oXf_sub, oXt_slc, oXf_slc, oXt_rev, oXf_rev, oXt_tup, oXf_tup, oXt_lst, oXf_lst, oXt_call, oXf_call, oXt_prim, oXf_prim, oXt_isi, oXf_isi, oXt_comp, oXf_comp, oXt_app, oXf_app, oXt_ext, oXf_ext, oXt_pop, oXf_pop, oXf_var, oXt_var, oX_lend, eX_var, eX_non, eX_bl, eX_int, eX_str, eX_glb, eX_bin, eX_neg, eX_not, eX_cmp, eX_chain, eX_and, eX_or, eX_ife, eX_sub, eX_slc, eX_rev, eX_tup, eX_lst, eX_call, eX_prim, eX_isi, eX_app, eX_ext, eX_pop, eP_nil, eP_cons, eL_nil, eL_cons, eI_rng2, eI_cons, eS_nil, eS_cons, eS_set, eS_unp, eS_sti, eS_ex, eS_ifs, eS_whl, eS_fors, eS_brk, eS_cnt, eS_pas, eS_retv, eS_ret_non, eS_ret_bl, eS_ret_int, eS_ret_str, eS_ret_glb, eS_ret_bin, eS_ret_neg, eS_ret_not, eS_ret_cmp, eS_ret_chain, eS_ret_and, eS_ret_or, eS_ret_ife, eS_ret_sub, eS_ret_slc, eS_ret_rev, eS_ret_tup, eS_ret_lst, eS_ret_call, eS_ret_prim, eS_ret_isi, eS_ret_comp, eS_ret_app, eS_ret_ext, eS_ret_pop, lpS_nil, lpS_cons, cmS_nil, cmS_cons, rdO, rdS, rdAll, frz, valsOf, argsOf, slotsOf, putBack, subD, slD, seqD, asg, asgs, copD, eqD, truS, List.mapIdx_cons, List.mapIdx_nil, List.getElem?_cons_zero, List.getElem?_cons_succ, List.set_cons_zero, List.set_cons_succ, List.length_cons, List.length_nil, List.cons_append, List.nil_append, List.replicate_zero, List.replicate_succ, List.append_nil, List.nodup_nil, List.nodup_cons, List.not_mem_nil, Nat.sub_self, Nat.add_one_sub_one, Nat.zero_lt_succ, if_true, if_false, eq_self_iff_true, reduceIte, reduceCtorEq, Nat.zero_le, slv, not_false_eq_true, and_self, and_true, true_and, List.singleton_append, Bool.not_true, Bool.not_false, List.foldl_nil, ite_true, ite_false, beq_self_eq_true, Nat.reduceAdd, Nat.reduceLT, Nat.reduceLeDiff, Nat.reduceSub, Nat.reduceEqDiff, Nat.reduceMul, Int.reduceAdd, Int.reduceLT, Int.reduceLE, Int.reduceNeg, Int.reduceEq, Int.reduceSub, decide_true, decide_false, decide_eq_true_eq, cond_true, cond_false, Int.reducePow, bm, ba, hd1, bd, prI, prL, b6, c1']
end Lw

set_option Elab.async false
set_option linter.all false
set_option maxRecDepth 100000
set_option maxHeartbeats 2000000
namespace Lw
open PySem PySem.Spec PyProof.Rows L2 Dv
theorem grow_loop {K : Nat} (hK : 3 ≤ K) (ds : List Nat) (hds : ds.length = 41) (number D : Nat) (hnum : number ≤ 50) (hD : 1 ≤ D) : ∀ (ks : List Nat) (R : List Blk) (W : Nat), (∀ k ∈ ks, k < 20) → Keep D W R → W + 2 * ks.length ≤ 98 → R.length + ks.length ≤ 900 →
    ∃ R', Keep D (W + 2 * ks.length) R' ∧ R'.length ≤ R.length + ks.length ∧ ∀ (o : Blk) (_ : wt o ≤ 90) (cell s6 s7 s8 s9 s10 : Slo), ∃ t6 t7 t8, lpS ⟨fnK rs gl0 K, gl0⟩ (.var 6) (.cons (.set 7 false (.call 19 (.cons (.sub (.var 4) (.bin .add (.bin .mul (.int 2) (.var 6)) (.int 1))) (.cons (.bin .add (.var 2) (.var 6)) .nil)))) (.cons (.set 8 false (.lst (.cons (.call 14 (.cons (.var 7) .nil)) (.cons (.call 14 (.cons (.var 7) .nil)) .nil)))) (.cons (.ifs (.and (.cmp .eq (.bin .mod (.prim .int (.cons (.bin .div (.sub (.var 4) (.bin .add (.bin .mul (.int 2) (.var 6)) (.int 1))) (.int 17)) .nil)) (.int 6)) (.int 0)) (.cmp .eq (.prim .len (.cons (.comp (.var 9) (.cons (.var 5) .nil) (.sub (.sub (.var 9) (.int 0)) (.int 3)) (.var 9) [9]) .nil)) (.int 0))) (.cons (.set 8 false (.lst (.cons (.call 14 (.cons (.tup (.cons (.str "inner") .nil)) .nil)) (.cons (.var 3) .nil)))) .nil) .nil) (.cons (.ex (.call 20 (.cons (.lend 5) (.cons (.bin .mod (.prim .int (.cons (.sub (.var 4) (.bin .mul (.int 2) (.var 6))) .nil)) (.int 12)) (.cons (.tup (.cons (.str "name") (.cons (.bin .add (.str "t") (.prim .str (.cons (.bin .add (.var 2) (.var 6)) .nil))) .nil))) (.cons (.var 8) (.cons (.var 1) .nil))))))) .nil)))) (ks.map fun (k : Nat) => PyData.int (k : Int)) [cell, .val (.int (D : Int)), .val (.int (number : Int)), .val (pc o), .val (.list (ds.map iN)), .own none (hp o R), s6, s7, s8, s9, s10] =
      some (.nx [cell, .val (.int (D : Int)), .val (.int (number : Int)), .val (pc o), .val (.list (ds.map iN)), .own none (hp o R'), t6, t7, t8, s9, s10])
  | [], R, W, _, h, _, _ => ⟨R, h, Nat.le_refl _, fun o ho cell s6 s7 s8 s9 s10 => ⟨s6, s7, s8, by rw [List.map_nil, lpS_nil]⟩⟩
  | k :: ks, R, W, hks, h, hw, hl => by
    simp only [List.length_cons] at hw hl
    obtain ⟨R1, k1, l1, e1⟩ := grow_step hK ds hds number D W k (hks k (List.mem_cons_self ..)) hnum R h (by omega) (by omega) hD
    obtain ⟨R2, k2, l2, e2⟩ := grow_loop hK ds hds number D hnum hD ks R1 (W + 2) (fun x hx => hks x (List.mem_cons_of_mem _ hx)) k1 (by omega) (by omega)
    refine ⟨R2, k2.up (by simp only [List.length_cons]; omega), by simp only [List.length_cons]; omega, fun o ho cell s6 s7 s8 s9 s10 => ?_⟩
    obtain ⟨u7, u8, f1⟩ := e1 o ho cell s7 s8 s9 s10
    obtain ⟨t6, t7, t8, f2⟩ := e2 o ho cell (.val (.int (k : Int))) u7 u8 s9 s10
    refine ⟨t6, t7, t8, ?_⟩
    have a : asg (.var 6) (.int (k : Int)) [cell, .val (.int (D : Int)), .val (.int (number : Int)), .val (pc o), .val (.list (ds.map iN)), .own none (hp o R), s6, s7, s8, s9, s10] = some [cell, .val (.int (D : Int)), .val (.int (number : Int)), .val (pc o), .val (.list (ds.map iN)), .own none (hp o R), .val (.int (k : Int)), s7, s8, s9, s10] := by
      simp only [runF, tagA, outsA, oXt_non, oXf_non, oXt_bl, oXf_bl, oXt_int, oXf_int, oXt_str, oXf_str, oXt_glb, oXf_glb, oXt_bin, oXf_bin, oXt_neg, oXf_neg, oXt_not, oXf_not, oXt_cmp, oXf_cmp, oXt_chain, oXf_chain, oXt_and, oXf_and, oXt_or, oXf_or, oXt_ife, oXf_ife, oXt_sub, oXf_sub, oXt_slc, oXf_slc, oXt_rev, oXf_rev, oXt_tup, oXf_tup, oXt_lst, oXf_lst, oXt_call, oXf_call, oXt_prim, oXf_prim, oXt_isi, oXf_isi, oXt_comp, oXf_comp, oXt_app, oXf_app, oXt_ext, oXf_ext, oXt_pop, oXf_pop, oXf_var, oXt_var, oX_lend, eX_var, eX_non, eX_bl, eX_int, eX_str, eX_glb, eX_bin, eX_neg, eX_not, eX_cmp, eX_chain, eX_and, eX_or, eX_ife, eX_sub, eX_slc, eX_rev, eX_tup, eX_lst, eX_call, eX_prim, eX_isi, eX_comp, eX_app, eX_ext, eX_pop, eP_nil, eP_cons, eL_nil, eL_cons, eI_rng1, eI_rng2, eI_cons, eS_nil, eS_cons, eS_set, eS_unp, eS_sti, eS_ex, eS_ifs, eS_whl, eS_fors, eS_brk, eS_cnt, eS_pas, eS_retv, eS_ret_non, eS_ret_bl, eS_ret_int, eS_ret_str, eS_ret_glb, eS_ret_bin, eS_ret_neg, eS_ret_not, eS_ret_cmp, eS_ret_chain, eS_ret_and, eS_ret_or, eS_ret_ife, eS_ret_sub, eS_ret_slc, eS_ret_rev, eS_ret_tup, eS_ret_lst, eS_ret_call, eS_ret_prim, eS_ret_isi, eS_ret_comp, eS_ret_app, eS_ret_ext, eS_ret_pop, lpS_nil, lpS_cons, cmS_nil, cmS_cons, rdO, rdS, rdAll, frz, valsOf, argsOf, slotsOf, putBack, subD, slD, prD, seqD, asg, asgs, bopD, copD, eqD, truS, List.mapIdx_cons, List.mapIdx_nil, List.getElem?_cons_zero, List.getElem?_cons_succ, List.set_cons_zero, List.set_cons_succ, List.length_cons, List.length_nil, List.cons_append, List.nil_append, List.replicate_zero, List.replicate_succ, List.append_nil, List.nodup_nil, List.nodup_cons, List.not_mem_nil, Nat.sub_self, Nat.add_one_sub_one, Nat.zero_lt_succ, if_true, if_false, eq_self_iff_true, reduceIte, reduceCtorEq, Nat.zero_le, slv, not_false_eq_true, and_self, and_true, true_and, List.singleton_append, Bool.not_true, Bool.not_false, List.foldl_nil, ite_true, ite_false, beq_self_eq_true, Nat.reduceAdd, Nat.reduceLT, Nat.reduceLeDiff, Nat.reduceSub, Nat.reduceEqDiff, Nat.reduceMul, Int.reduceAdd, Int.reduceLT, Int.reduceLE, Int.reduceNeg, Int.reduceEq, Int.reduceSub, decide_true, decide_false, decide_eq_true_eq, cond_true, cond_false, Int.reducePow]
    rw [List.map_cons, lpS_cons, a]
    dsimp only
    rw [f1]
    exact f2
/-- the heap put together -/
def sumB (w : Blk) : List Blk → Blk
  | [] => w
  | a :: As => sumB (app w a) As
theorem sum_loop {K : Nat} (hK : 2 ≤ K) (o : Blk) (ho : wt o ≤ 90) (a0 a1 a2 a3 a4 a5 a6 a7 a8 : Slo) : ∀ (As : List Blk) (w : Blk) (s9 : Slo), wt w + (As.map wt).sum ≤ 100 →
    ∃ t9, lpS ⟨fnK rs gl0 K, gl0⟩ (.var 9) (.cons (.set 10 false (.lst (.cons (.call 16 (.cons (.sub (.var 10) (.int 0)) (.cons (.sub (.var 9) (.int 0)) .nil))) (.cons (.call 16 (.cons (.sub (.var 10) (.int 1)) (.cons (.sub (.var 9) (.int 1)) .nil))) .nil)))) .nil) (As.map (prO o)) [a0, a1, a2, a3, a4, a5, a6, a7, a8, s9, .val (prO o w)] = some (.nx [a0, a1, a2, a3, a4, a5, a6, a7, a8, t9, .val (prO o (sumB w As))])
  | [], w, s9, _ => ⟨s9, by rw [List.map_nil, lpS_nil, sumB]⟩
  | a :: As, w, s9, h => by
    simp only [List.map_cons, List.sum_cons] at h
    obtain ⟨t9, e⟩ := sum_loop hK o ho a0 a1 a2 a3 a4 a5 a6 a7 a8 As (app w a) (.val (prO o a)) (by rw [wt_app]; omega)
    have m1 := sm_of (o := o) (a := w) (by omega) ho
    have m2 := sm_of (o := o) (a := a) (by omega) ho
    have b1 := both_ok hK w a m1.1 m2.1
    have b2 := both_ok hK (fillB w o) (fillB a o) m1.2 m2.2
    have f := (pO_app o w a).symm
    refine ⟨t9, ?_⟩
    simp only [List.map_cons, runF, tagA, outsA, oXt_non, oXf_non, oXt_bl, oXf_bl, oXt_int, oXf_int, oXt_str, oXf_str, oXt_glb, oXf_glb, oXt_bin, oXf_bin, oXt_neg, oXf_neg, oXt_not, oXf_not, oXt_cmp, oXf_cmp, oXt_chain, oXf_chain, oXt_and, oXf_and, oXt_or, oXf_or, oXt_ife, oXf_ife, oXt_sub, oXf_sub, oXt_slc, oXf_slc, oXt_rev, oXf_rev, oXt_tup, oXf_tup, oXt_lst, oXf_lst, oXt_call, oXf_call, oXt_prim, oXf_prim, oXt_isi, oXf_isi, oXt_comp, oXf_comp, oXt_app, oXf_app, oXt_ext, oXf_ext, oXt_pop, oXf_pop, oXf_var, oXt_var, oX_lend, eX_var, eX_non, eX_bl, eX_int, eX_str, eX_glb, eX_bin, eX_neg, eX_not, eX_cmp, eX_chain, eX_and, eX_or, eX_ife, eX_sub, eX_slc, eX_rev, eX_tup, eX_lst, eX_call, eX_prim, eX_isi, eX_comp, eX_app, eX_ext, eX_pop, eP_nil, eP_cons, eL_nil, eL_cons, eI_rng1, eI_rng2, eI_cons, eS_nil, eS_cons, eS_set, eS_unp, eS_sti, eS_ex, eS_ifs, eS_whl, eS_fors, eS_brk, eS_cnt, eS_pas, eS_retv, eS_ret_non, eS_ret_bl, eS_ret_int, eS_ret_str, eS_ret_glb, eS_ret_bin, eS_ret_neg, eS_ret_not, eS_ret_cmp, eS_ret_chain, eS_ret_and, eS_ret_or, eS_ret_ife, eS_ret_sub, eS_ret_slc, eS_ret_rev, eS_ret_tup, eS_ret_lst, eS_ret_call, eS_ret_prim, eS_ret_isi, eS_ret_comp, eS_ret_app, eS_ret_ext, eS_ret_pop, lpS_nil, lpS_cons, cmS_nil, cmS_cons, rdO, rdS, rdAll, frz, valsOf, argsOf, slotsOf, putBack, slD, prD, seqD, asg, asgs, bopD, copD, eqD, truS, List.mapIdx_cons, List.mapIdx_nil, List.getElem?_cons_zero, List.getElem?_cons_succ, List.set_cons_zero, List.set_cons_succ, List.length_cons, List.length_nil, List.cons_append, List.nil_append, List.replicate_zero, List.replicate_succ, List.append_nil, List.nodup_nil, List.nodup_cons, List.not_mem_nil, Nat.sub_self, Nat.add_one_sub_one, Nat.zero_lt_succ, if_true, if_false, eq_self_iff_true, reduceIte, reduceCtorEq, Nat.zero_le, slv, not_false_eq_true, and_self, and_true, true_and, List.singleton_append, Bool.not_true, Bool.not_false, List.foldl_nil, ite_true, ite_false, beq_self_eq_true, Nat.reduceAdd, Nat.reduceLT, Nat.reduceLeDiff, Nat.reduceSub, Nat.reduceEqDiff, Nat.reduceMul, Int.reduceAdd, Int.reduceLT, Int.reduceLE, Int.reduceNeg, Int.reduceEq, Int.reduceSub, decide_true, decide_false, decide_eq_true_eq, cond_true, cond_false, Int.reducePow, pr0, pr1, b1, b2, pc_fold, f, e, sumB]
theorem sum_keep {D : Nat} : ∀ (As : List Blk) (w : Blk), okB w = true → dep w ≤ D → (∀ a ∈ As, okB a = true ∧ dep a ≤ D) → okB (sumB w As) = true ∧ dep (sumB w As) ≤ D ∧ wt (sumB w As) = wt w + (As.map wt).sum
  | [], w, h1, h2, _ => ⟨h1, h2, by simp only [sumB, List.map_nil, List.sum_nil]; omega⟩
  | a :: As, w, h1, h2, h3 => by
    have ha := h3 a (List.mem_cons_self ..)
    have i := sum_keep (D := D) As (app w a) (by rw [okB_app, h1, ha.1]; rfl) (by rw [dep_app]; omega) fun x hx => h3 x (List.mem_cons_of_mem _ hx)
    refine ⟨i.1, i.2.1, ?_⟩
    simp only [sumB, List.map_cons, List.sum_cons]
    rw [i.2.2, wt_app]
    omega
theorem grown_ok {K : Nat} (hK : 4 ≤ K) (cell : Int) (D number : Nat) (hnum : number ≤ 50) (hD : 1 ≤ D) : ∃ b : Blk, okB b = true ∧ dep b ≤ D ∧ wt b ≤ 40 ∧ ∀ o, wt o ≤ 90 →
    fnK rs gl0 K 21 [.val (.int cell), .val (.int (D : Int)), .val (.int (number : Int)), .val (pc o)] = some (.val (prO o b), [.un, .un, .un, .un]) := by
  obtain ⟨k, rfl⟩ : ∃ k, K = k + 1 := ⟨K - 1, by omega⟩
  have hk : 3 ≤ k := by omega
  obtain ⟨ds, hl, hb, ed⟩ := draws_ok (K := k) (by omega) cell 41 (by omega)
  have z41 : ((41 : Nat) : Int) = 41 := rfl
  rw [z41] at ed
  have hd := dAt (ds := ds) (i := 40) (j := 40) (by omega) rfl
  generalize ds.getD 40 0 = d at hd
  have hn : d % 21 ≤ 20 := by omega
  have b21 : bopD .mod (.int (d : Int)) (.int 21) = some (.val (.int ((d % 21 : Nat) : Int))) := by
    simp only [bopD]
    rw [if_pos (by decide)]
    rfl
  obtain ⟨R, kp, lR, eL⟩ := grow_loop hk ds hl number D hnum hD (List.range (d % 21)) [.nil] 0 (fun x hx => by have := List.mem_range.mp hx; omega) ⟨fun a ha => by rcases List.mem_singleton.mp ha with rfl; exact ⟨rfl, hD⟩, by simp [wt], by simp⟩ (by rw [List.length_range]; omega) (by rw [List.length_range]; simp only [List.length_cons, List.length_nil]; omega)
  rw [List.length_range] at kp lR
  have ws : (R.reverse.map wt).sum = (R.map wt).sum := by rw [List.map_reverse, List.sum_reverse]
  have kw := kp.w
  have sk := sum_keep (D := D) R.reverse .nil rfl hD fun a ha => kp.ok a (List.mem_reverse.mp ha)
  refine ⟨sumB .nil R.reverse, sk.1, sk.2.1, by rw [sk.2.2, ws]; simp only [wt]; omega, fun o ho => ?_⟩
  obtain ⟨t6, t7, t8, e1⟩ := eL o ho (.val (.int cell)) .un .un .un .un .un
  obtain ⟨t9, e2⟩ := sum_loop (K := k) (by omega) o ho (.val (.int cell)) (.val (.int (D : Int))) (.val (.int (number : Int))) (.val (pc o)) (.val (.list (ds.map iN))) (.val (.list (hp o R))) t6 t7 t8 R.reverse .nil .un (by rw [ws]; simp only [wt]; omega)
  have f' : List.map (prO o) R.reverse = hp o R := rfl
  rw [f'] at e2
  have nn := none_ok (K := k) (by omega)
  have h0 : hp o [.nil] = [.list [pc .nil, pc .nil]] := rfl
  rw [h0] at e1
  have rr : evI ⟨fnK rs gl0 k, gl0⟩ false (.rng1 (.bin .mod (.prim .int (.cons (.sub (.var 4) (.int 40)) .nil)) (.int 21))) [.val (.int cell), .val (.int (D : Int)), .val (.int (number : Int)), .val (pc o), .val (.list (ds.map iN)), .own none [.list [pc .nil, pc .nil]], .un, .un, .un, .un, .un] = some ((List.range (d % 21)).map (fun (k : Nat) => PyData.int (k : Int)), [.val (.int cell), .val (.int (D : Int)), .val (.int (number : Int)), .val (pc o), .val (.list (ds.map iN)), .own none [.list [pc .nil, pc .nil]], .un, .un, .un, .un, .un]) :=
    eI_rngN (by simp only [runF, tagA, outsA, oXt_non, oXf_non, oXt_bl, oXf_bl, oXt_int, oXf_int, oXt_str, oXf_str, oXt_glb, oXf_glb, oXt_bin, oXf_bin, oXt_neg, oXf_neg, oXt_not, oXf_not, oXt_cmp, oXf_cmp, oXt_chain, oXf_chain, oXt_and, oXf_and, oXt_or, oXf_or, oXt_ife, oXf_ife, oXt_sub, oXf_sub, oXt_slc, oXf_slc, oXt_rev, oXf_rev, oXt_tup, oXf_tup, oXt_lst, oXf_lst, oXt_call, oXf_call, oXt_prim, oXf_prim, oXt_isi, oXf_isi, oXt_comp, oXf_comp, oXt_app, oXf_app, oXt_ext, oXf_ext, oXt_pop, oXf_pop, oXf_var, oXt_var, oX_lend, eX_var, eX_non, eX_bl, eX_int, eX_str, eX_glb, eX_bin, eX_neg, eX_not, eX_cmp, eX_chain, eX_and, eX_or, eX_ife, eX_sub, eX_slc, eX_rev, eX_tup, eX_lst, eX_call, eX_prim, eX_isi, eX_app, eX_ext, eX_pop, eP_nil, eP_cons, eL_nil, eL_cons, eI_rng2, eI_cons, eS_nil, eS_cons, eS_set, eS_unp, eS_sti, eS_ex, eS_ifs, eS_whl, eS_fors, eS_brk, eS_cnt, eS_pas, eS_retv, eS_ret_non, eS_ret_bl, eS_ret_int, eS_ret_str, eS_ret_glb, eS_ret_bin, eS_ret_neg, eS_ret_not, eS_ret_cmp, eS_ret_chain, eS_ret_and, eS_ret_or, eS_ret_ife, eS_ret_sub, eS_ret_slc, eS_ret_rev, eS_ret_tup, eS_ret_lst, eS_ret_call, eS_ret_prim, eS_ret_isi, eS_ret_comp, eS_ret_app, eS_ret_ext, eS_ret_pop, lpS_nil, lpS_cons, cmS_nil, cmS_cons, rdO, rdS, rdAll, frz, valsOf, argsOf, slotsOf, putBack, subD, slD, seqD, asg, asgs, copD, eqD, truS, List.mapIdx_cons, List.mapIdx_nil, List.getElem?_cons_zero, List.getElem?_cons_succ, List.set_cons_zero, List.set_cons_succ, List.length_cons, List.length_nil, List.cons_append, List.nil_append, List.replicate_zero, List.replicate_succ, List.append_nil, List.nodup_nil, List.nodup_cons, List.not_mem_nil, Nat.sub_self, Nat.add_one_sub_one, Nat.zero_lt_succ, if_true, if_false, eq_self_iff_true, reduceIte, reduceCtorEq, Nat.zero_le, slv, not_false_eq_true, and_self, and_true, true_and, List.singleton_append, Bool.not_true, Bool.not_false, List.foldl_nil, ite_true, ite_false, beq_self_eq_true, Nat.reduceAdd, Nat.reduceLT, Nat.reduceLeDiff, Nat.reduceSub, Nat.reduceEqDiff, Nat.reduceMul, Int.reduceAdd, Int.reduceLT, Int.reduceLE, Int.reduceNeg, Int.reduceEq, Int.reduceSub, decide_true, decide_false, decide_eq_true_eq, cond_true, cond_false, Int.reducePow, hd, prI, b21]) (by omega)
  have fo := (pO_nil o).symm
  have q1 : evS ⟨fnK rs gl0 k, gl0⟩ (.set 4 false (.call 12 (.cons (.var 0) (.cons (.int 41) .nil)))) [.val (.int cell), .val (.int (D : Int)), .val (.int (number : Int)), .val (pc o), .un, .un, .un, .un, .un, .un, .un] = some (.nx [.val (.int cell), .val (.int (D : Int)), .val (.int (number : Int)), .val (pc o), .val (.list (ds.map iN)), .un, .un, .un, .un, .un, .un]) := by
    simp only [runF, tagA, outsA, oXt_non, oXf_non, oXt_bl, oXf_bl, oXt_int, oXf_int, oXt_str, oXf_str, oXt_glb, oXf_glb, oXt_bin, oXf_bin, oXt_neg, oXf_neg, oXt_not, oXf_not, oXt_cmp, oXf_cmp, oXt_chain, oXf_chain, oXt_and, oXf_and, oXt_or, oXf_or, oXt_ife, oXf_ife, oXt_sub, oXf_sub, oXt_slc, oXf_slc, oXt_rev, oXf_rev, oXt_tup, oXf_tup, oXt_lst, oXf_lst, oXt_call, oXf_call, oXt_prim, oXf_prim, oXt_isi, oXf_isi, oXt_comp, oXf_comp, oXt_app, oXf_app, oXt_ext, oXf_ext, oXt_pop, oXf_pop, oXf_var, oXt_var, oX_lend, eX_var, eX_non, eX_bl, eX_int, eX_str, eX_glb, eX_bin, eX_neg, eX_not, eX_cmp, eX_chain, eX_and, eX_or, eX_ife, eX_sub, eX_slc, eX_rev, eX_tup, eX_lst, eX_call, eX_prim, eX_isi, eX_app, eX_ext, eX_pop, eP_nil, eP_cons, eL_nil, eL_cons, eI_rng2, eI_cons, eS_nil, eS_cons, eS_set, eS_unp, eS_sti, eS_ex, eS_ifs, eS_whl, eS_fors, eS_brk, eS_cnt, eS_pas, eS_retv, eS_ret_non, eS_ret_bl, eS_ret_int, eS_ret_str, eS_ret_glb, eS_ret_bin, eS_ret_neg, eS_ret_not, eS_ret_cmp, eS_ret_chain, eS_ret_and, eS_ret_or, eS_ret_ife, eS_ret_sub, eS_ret_slc, eS_ret_rev, eS_ret_tup, eS_ret_lst, eS_ret_call, eS_ret_prim, eS_ret_isi, eS_ret_comp, eS_ret_app, eS_ret_ext, eS_ret_pop, lpS_nil, lpS_cons, cmS_nil, cmS_cons, rdO, rdS, rdAll, frz, valsOf, argsOf, slotsOf, putBack, subD, slD, seqD, asg, asgs, copD, eqD, truS, List.mapIdx_cons, List.mapIdx_nil, List.getElem?_cons_zero, List.getElem?_cons_succ, List.set_cons_zero, List.set_cons_succ, List.length_cons, List.length_nil, List.cons_append, List.nil_append, List.replicate_zero, List.replicate_succ, List.append_nil, List.nodup_nil, List.nodup_cons, List.not_mem_nil, Nat.sub_self, Nat.add_one_sub_one, Nat.zero_lt_succ, if_true, if_false, eq_self_iff_true, reduceIte, reduceCtorEq, Nat.zero_le, slv, not_false_eq_true, and_self, and_true, true_and, List.singleton_append, Bool.not_true, Bool.not_false, List.foldl_nil, ite_true, ite_false, beq_self_eq_true, Nat.reduceAdd, Nat.reduceLT, Nat.reduceLeDiff, Nat.reduceSub, Nat.reduceEqDiff, Nat.reduceMul, Int.reduceAdd, Int.reduceLT, Int.reduceLE, Int.reduceNeg, Int.reduceEq, Int.reduceSub, decide_true, decide_false, decide_eq_true_eq, cond_true, cond_false, Int.reducePow, ed]
  have q2 : evS ⟨fnK rs gl0 k, gl0⟩ (.set 5 true (.lst (.cons (.lst (.cons (.call 13 .nil) (.cons (.call 13 .nil) .nil))) .nil))) [.val (.int cell), .val (.int (D : Int)), .val (.int (number : Int)), .val (pc o), .val (.list (ds.map iN)), .un, .un, .un, .un, .un, .un] = some (.nx [.val (.int cell), .val (.int (D : Int)), .val (.int (number : Int)), .val (pc o), .val (.list (ds.map iN)), .own none [.list [pc .nil, pc .nil]], .un, .un, .un, .un, .un]) := by
    simp only [runF, tagA, outsA, oXt_non, oXf_non, oXt_bl, oXf_bl, oXt_int, oXf_int, oXt_str, oXf_str, oXt_glb, oXf_glb, oXt_bin, oXf_bin, oXt_neg, oXf_neg, oXt_not, oXf_not, oXt_cmp, oXf_cmp, oXt_chain, oXf_chain, oXt_and, oXf_and, oXt_or, oXf_or, oXt_ife, oXf_ife, oXt_sub, oXf_sub, oXt_slc, oXf_slc, oXt_rev, oXf_rev, oXt_tup, oXf_tup, oXt_lst, oXf_lst, oXt_call, oXf_call, oXt_prim, oXf_prim, oXt_isi, oXf_isi, oXt_comp, oXf_comp, oXt_app, oXf_app, oXt_ext, oXf_ext, oXt_pop, oXf_pop, oXf_var, oXt_var, oX_lend, eX_var, eX_non, eX_bl, eX_int, eX_str, eX_glb, eX_bin, eX_neg, eX_not, eX_cmp, eX_chain, eX_and, eX_or, eX_ife, eX_sub, eX_slc, eX_rev, eX_tup, eX_lst, eX_call, eX_prim, eX_isi, eX_app, eX_ext, eX_pop, eP_nil, eP_cons, eL_nil, eL_cons, eI_rng2, eI_cons, eS_nil, eS_cons, eS_set, eS_unp, eS_sti, eS_ex, eS_ifs, eS_whl, eS_fors, eS_brk, eS_cnt, eS_pas, eS_retv, eS_ret_non, eS_ret_bl, eS_ret_int, eS_ret_str, eS_ret_glb, eS_ret_bin, eS_ret_neg, eS_ret_not, eS_ret_cmp, eS_ret_chain, eS_ret_and, eS_ret_or, eS_ret_ife, eS_ret_sub, eS_ret_slc, eS_ret_rev, eS_ret_tup, eS_ret_lst, eS_ret_call, eS_ret_prim, eS_ret_isi, eS_ret_comp, eS_ret_app, eS_ret_ext, eS_ret_pop, lpS_nil, lpS_cons, cmS_nil, cmS_cons, rdO, rdS, rdAll, frz, valsOf, argsOf, slotsOf, putBack, subD, slD, seqD, asg, asgs, copD, eqD, truS, List.mapIdx_cons, List.mapIdx_nil, List.getElem?_cons_zero, List.getElem?_cons_succ, List.set_cons_zero, List.set_cons_succ, List.length_cons, List.length_nil, List.cons_append, List.nil_append, List.replicate_zero, List.replicate_succ, List.append_nil, List.nodup_nil, List.nodup_cons, List.not_mem_nil, Nat.sub_self, Nat.add_one_sub_one, Nat.zero_lt_succ, if_true, if_false, eq_self_iff_true, reduceIte, reduceCtorEq, Nat.zero_le, slv, not_false_eq_true, and_self, and_true, true_and, List.singleton_append, Bool.not_true, Bool.not_false, List.foldl_nil, ite_true, ite_false, beq_self_eq_true, Nat.reduceAdd, Nat.reduceLT, Nat.reduceLeDiff, Nat.reduceSub, Nat.reduceEqDiff, Nat.reduceMul, Int.reduceAdd, Int.reduceLT, Int.reduceLE, Int.reduceNeg, Int.reduceEq, Int.reduceSub, decide_true, decide_false, decide_eq_true_eq, cond_true, cond_false, Int.reducePow, nn, pc_fold]
  have q3 : evS ⟨fnK rs gl0 k, gl0⟩ (.fors (.var 6) (.rng1 (.bin .mod (.prim .int (.cons (.sub (.var 4) (.int 40)) .nil)) (.int 21))) (.cons (.set 7 false (.call 19 (.cons (.sub (.var 4) (.bin .add (.bin .mul (.int 2) (.var 6)) (.int 1))) (.cons (.bin .add (.var 2) (.var 6)) .nil)))) (.cons (.set 8 false (.lst (.cons (.call 14 (.cons (.var 7) .nil)) (.cons (.call 14 (.cons (.var 7) .nil)) .nil)))) (.cons (.ifs (.and (.cmp .eq (.bin .mod (.prim .int (.cons (.bin .div (.sub (.var 4) (.bin .add (.bin .mul (.int 2) (.var 6)) (.int 1))) (.int 17)) .nil)) (.int 6)) (.int 0)) (.cmp .eq (.prim .len (.cons (.comp (.var 9) (.cons (.var 5) .nil) (.sub (.sub (.var 9) (.int 0)) (.int 3)) (.var 9) [9]) .nil)) (.int 0))) (.cons (.set 8 false (.lst (.cons (.call 14 (.cons (.tup (.cons (.str "inner") .nil)) .nil)) (.cons (.var 3) .nil)))) .nil) .nil) (.cons (.ex (.call 20 (.cons (.lend 5) (.cons (.bin .mod (.prim .int (.cons (.sub (.var 4) (.bin .mul (.int 2) (.var 6))) .nil)) (.int 12)) (.cons (.tup (.cons (.str "name") (.cons (.bin .add (.str "t") (.prim .str (.cons (.bin .add (.var 2) (.var 6)) .nil))) .nil))) (.cons (.var 8) (.cons (.var 1) .nil))))))) .nil))))) [.val (.int cell), .val (.int (D : Int)), .val (.int (number : Int)), .val (pc o), .val (.list (ds.map iN)), .own none [.list [pc .nil, pc .nil]], .un, .un, .un, .un, .un] = some (.nx [.val (.int cell), .val (.int (D : Int)), .val (.int (number : Int)), .val (pc o), .val (.list (ds.map iN)), .own none (hp o R), t6, t7, t8, .un, .un]) := by
    rw [eS_fors, rr]
    exact e1
  have q4 : evS ⟨fnK rs gl0 k, gl0⟩ (.set 10 false (.lst (.cons (.call 13 .nil) (.cons (.call 13 .nil) .nil)))) [.val (.int cell), .val (.int (D : Int)), .val (.int (number : Int)), .val (pc o), .val (.list (ds.map iN)), .own none (hp o R), t6, t7, t8, .un, .un] = some (.nx [.val (.int cell), .val (.int (D : Int)), .val (.int (number : Int)), .val (pc o), .val (.list (ds.map iN)), .own none (hp o R), t6, t7, t8, .un, .val (prO o .nil)]) := by
    simp only [runF, tagA, outsA, oXt_non, oXf_non, oXt_bl, oXf_bl, oXt_int, oXf_int, oXt_str, oXf_str, oXt_glb, oXf_glb, oXt_bin, oXf_bin, oXt_neg, oXf_neg, oXt_not, oXf_not, oXt_cmp, oXf_cmp, oXt_chain, oXf_chain, oXt_and, oXf_and, oXt_or, oXf_or, oXt_ife, oXf_ife, oXt_sub, oXf_sub, oXt_slc, oXf_slc, oXt_rev, oXf_rev, oXt_tup, oXf_tup, oXt_lst, oXf_lst, oXt_call, oXf_call, oXt_prim, oXf_prim, oXt_isi, oXf_isi, oXt_comp, oXf_comp, oXt_app, oXf_app, oXt_ext, oXf_ext, oXt_pop, oXf_pop, oXf_var, oXt_var, oX_lend, eX_var, eX_non, eX_bl, eX_int, eX_str, eX_glb, eX_bin, eX_neg, eX_not, eX_cmp, eX_chain, eX_and, eX_or, eX_ife, eX_sub, eX_slc, eX_rev, eX_tup, eX_lst, eX_call, eX_prim, eX_isi, eX_app, eX_ext, eX_pop, eP_nil, eP_cons, eL_nil, eL_cons, eI_rng2, eI_cons, eS_nil, eS_cons, eS_set, eS_unp, eS_sti, eS_ex, eS_ifs, eS_whl, eS_fors, eS_brk, eS_cnt, eS_pas, eS_retv, eS_ret_non, eS_ret_bl, eS_ret_int, eS_ret_str, eS_ret_glb, eS_ret_bin, eS_ret_neg, eS_ret_not, eS_ret_cmp, eS_ret_chain, eS_ret_and, eS_ret_or, eS_ret_ife, eS_ret_sub, eS_ret_slc, eS_ret_rev, eS_ret_tup, eS_ret_lst, eS_ret_call, eS_ret_prim, eS_ret_isi, eS_ret_comp, eS_ret_app, eS_ret_ext, eS_ret_pop, lpS_nil, lpS_cons, cmS_nil, cmS_cons, rdO, rdS, rdAll, frz, valsOf, argsOf, slotsOf, putBack, subD, slD, seqD, asg, asgs, copD, eqD, truS, List.mapIdx_cons, List.mapIdx_nil, List.getElem?_cons_zero, List.getElem?_cons_succ, List.set_cons_zero, List.set_cons_succ, List.length_cons, List.length_nil, List.cons_append, List.nil_append, List.replicate_zero, List.replicate_succ, List.append_nil, List.nodup_nil, List.nodup_cons, List.not_mem_nil, Nat.sub_self, Nat.add_one_sub_one, Nat.zero_lt_succ, if_true, if_false, eq_self_iff_true, reduceIte, reduceCtorEq, Nat.zero_le, slv, not_false_eq_true, and_self, and_true, true_and, List.singleton_append, Bool.not_true, Bool.not_false, List.foldl_nil, ite_true, ite_false, beq_self_eq_true, Nat.reduceAdd, Nat.reduceLT, Nat.reduceLeDiff, Nat.reduceSub, Nat.reduceEqDiff, Nat.reduceMul, Int.reduceAdd, Int.reduceLT, Int.reduceLE, Int.reduceNeg, Int.reduceEq, Int.reduceSub, decide_true, decide_false, decide_eq_true_eq, cond_true, cond_false, Int.reducePow, nn, pc_fold, fo]
  have q5 : evS ⟨fnK rs gl0 k, gl0⟩ (.fors (.var 9) (.cons (.var 5) .nil) (.cons (.set 10 false (.lst (.cons (.call 16 (.cons (.sub (.var 10) (.int 0)) (.cons (.sub (.var 9) (.int 0)) .nil))) (.cons (.call 16 (.cons (.sub (.var 10) (.int 1)) (.cons (.sub (.var 9) (.int 1)) .nil))) .nil)))) .nil)) [.val (.int cell), .val (.int (D : Int)), .val (.int (number : Int)), .val (pc o), .val (.list (ds.map iN)), .own none (hp o R), t6, t7, t8, .un, .val (prO o .nil)] = some (.nx [.val (.int cell), .val (.int (D : Int)), .val (.int (number : Int)), .val (pc o), .val (.list (ds.map iN)), .val (.list (hp o R)), t6, t7, t8, t9, .val (prO o (sumB .nil R.reverse))]) := by
    simp only [runF, tagA, outsA, oXt_non, oXf_non, oXt_bl, oXf_bl, oXt_int, oXf_int, oXt_str, oXf_str, oXt_glb, oXf_glb, oXt_bin, oXf_bin, oXt_neg, oXf_neg, oXt_not, oXf_not, oXt_cmp, oXf_cmp, oXt_chain, oXf_chain, oXt_and, oXf_and, oXt_or, oXf_or, oXt_ife, oXf_ife, oXt_sub, oXf_sub, oXt_slc, oXf_slc, oXt_rev, oXf_rev, oXt_tup, oXf_tup, oXt_lst, oXf_lst, oXt_call, oXf_call, oXt_prim, oXf_prim, oXt_isi, oXf_isi, oXt_comp, oXf_comp, oXt_app, oXf_app, oXt_ext, oXf_ext, oXt_pop, oXf_pop, oXf_var, oXt_var, oX_lend, eX_var, eX_non, eX_bl, eX_int, eX_str, eX_glb, eX_bin, eX_neg, eX_not, eX_cmp, eX_chain, eX_and, eX_or, eX_ife, eX_sub, eX_slc, eX_rev, eX_tup, eX_lst, eX_call, eX_prim, eX_isi, eX_app, eX_ext, eX_pop, eP_nil, eP_cons, eL_nil, eL_cons, eI_rng2, eI_cons, eS_nil, eS_cons, eS_set, eS_unp, eS_sti, eS_ex, eS_ifs, eS_whl, eS_fors, eS_brk, eS_cnt, eS_pas, eS_retv, eS_ret_non, eS_ret_bl, eS_ret_int, eS_ret_str, eS_ret_glb, eS_ret_bin, eS_ret_neg, eS_ret_not, eS_ret_cmp, eS_ret_chain, eS_ret_and, eS_ret_or, eS_ret_ife, eS_ret_sub, eS_ret_slc, eS_ret_rev, eS_ret_tup, eS_ret_lst, eS_ret_call, eS_ret_prim, eS_ret_isi, eS_ret_comp, eS_ret_app, eS_ret_ext, eS_ret_pop, lpS_nil, lpS_cons, cmS_nil, cmS_cons, rdO, rdS, rdAll, frz, valsOf, argsOf, slotsOf, putBack, subD, slD, seqD, asg, asgs, copD, eqD, truS, List.mapIdx_cons, List.mapIdx_nil, List.getElem?_cons_zero, List.getElem?_cons_succ, List.set_cons_zero, List.set_cons_succ, List.length_cons, List.length_nil, List.cons_append, List.nil_append, List.replicate_zero, List.replicate_succ, List.append_nil, List.nodup_nil, List.nodup_cons, List.not_mem_nil, Nat.sub_self, Nat.add_one_sub_one, Nat.zero_lt_succ, if_true, if_false, eq_self_iff_true, reduceIte, reduceCtorEq, Nat.zero_le, slv, not_false_eq_true, and_self, and_true, true_and, List.singleton_append, Bool.not_true, Bool.not_false, List.foldl_nil, ite_true, ite_false, beq_self_eq_true, Nat.reduceAdd, Nat.reduceLT, Nat.reduceLeDiff, Nat.reduceSub, Nat.reduceEqDiff, Nat.reduceMul, Int.reduceAdd, Int.reduceLT, Int.reduceLE, Int.reduceNeg, Int.reduceEq, Int.reduceSub, decide_true, decide_false, decide_eq_true_eq, cond_true, cond_false, Int.reducePow, e2]
  rw [run21]
  simp only [runF, tagA, outsA, oXt_non, oXf_non, oXt_bl, oXf_bl, oXt_int, oXf_int, oXt_str, oXf_str, oXt_glb, oXf_glb, oXt_bin, oXf_bin, oXt_neg, oXf_neg, oXt_not, oXf_not, oXt_cmp, oXf_cmp, oXt_chain, oXf_chain, oXt_and, oXf_and, oXt_or, oXf_or, oXt_ife, oXf_ife, oXt_sub, oXf_sub, oXt_slc, oXf_slc, oXt_rev, oXf_rev, oXt_tup, oXf_tup, oXt_lst, oXf_lst, oXt_call, oXf_call, oXt_prim, oXf_prim, oXt_isi, oXf_isi, oXt_comp, oXf_comp, oXt_app, oXf_app, oXt_ext, oXf_ext, oXt_pop, oXf_pop, oXf_var, oXt_var, oX_lend, eX_var, eX_non, eX_bl, eX_int, eX_str, eX_glb, eX_bin, eX_neg, eX_not, eX_cmp, eX_chain, eX_and, eX_or, eX_ife, eX_sub, eX_slc, eX_rev, eX_tup, eX_lst, eX_call, eX_prim, eX_isi, eX_app, eX_ext, eX_pop, eP_nil, eP_cons, eL_nil, eL_cons, eI_rng2, eI_cons, eS_nil, eS_cons, eS_set, eS_unp, eS_sti, eS_ex, eS_ifs, eS_whl, eS_fors, eS_brk, eS_cnt, eS_pas, eS_retv, eS_ret_non, eS_ret_bl, eS_ret_int, eS_ret_str, eS_ret_glb, eS_ret_bin, eS_ret_neg, eS_ret_not, eS_ret_cmp, eS_ret_chain, eS_ret_and, eS_ret_or, eS_ret_ife, eS_ret_sub, eS_ret_slc, eS_ret_rev, eS_ret_tup, eS_ret_lst, eS_ret_call, eS_ret_prim, eS_ret_isi, eS_ret_comp, eS_ret_app, eS_ret_ext, eS_ret_pop, lpS_nil, lpS_cons, cmS_nil, cmS_cons, rdO, rdS, rdAll, frz, valsOf, argsOf, slotsOf, putBack, subD, slD, seqD, asg, asgs, copD, eqD, truS, List.mapIdx_cons, List.mapIdx_nil, List.getElem?_cons_zero, List.getElem?_cons_succ, List.set_cons_zero, List.set_cons_succ, List.length_cons, List.length_nil, List.cons_append, List.nil_append, List.replicate_zero, List.replicate_succ, List.append_nil, List.nodup_nil, List.nodup_cons, List.not_mem_nil, Nat.sub_self, Nat.add_one_sub_one, Nat.zero_lt_succ, if_true, if_false, eq_self_iff_true, reduceIte, reduceCtorEq, Nat.zero_le, slv, not_false_eq_true, and_self, and_true, true_and, List.singleton_append, Bool.not_true, Bool.not_false, List.foldl_nil, ite_true, ite_false, beq_self_eq_true, Nat.reduceAdd, Nat.reduceLT, Nat.reduceLeDiff, Nat.reduceSub, Nat.reduceEqDiff, Nat.reduceMul, Int.reduceAdd, Int.reduceLT, Int.reduceLE, Int.reduceNeg, Int.reduceEq, Int.reduceSub, decide_true, decide_false, decide_eq_true_eq, cond_true, cond_false, Int.reducePow, q1, q2, q3, q4, q5]
end Lw

set_option Elab.async false
set_option linter.all false
set_option maxRecDepth 100000
set_option maxHeartbeats 2000000
namespace Lw
open PySem PySem.Spec PyProof.Rows L2 Dv
theorem run24 (k : Nat) (as : DEn) : fnK rs gl0 (k + 1) 24 as = runF ⟨fnK rs gl0 k, gl0⟩ 1 11 ir_law as := rfl
def tT : PD := .tuple [.str "==", .tuple [.str "name", .str "a"], .tuple [.str "none"]]
theorem tT_ok : okT tT = true := by decide +kernel
def tL : Blk := .simp "hold" [.tuple [.str "number", .int 99]] .nil
theorem tL_okS : okS "hold" [.tuple [.str "number", .int 99]] = true := m_3 (n := 99) (by omega)
theorem tL_ok : okB tL = true := by simp only [tL, okB, tL_okS, Bool.and_self]
def law_pcs (A B : Blk) : List Blk := [A, B, fillB A .nil, fillB A B, fillB B A, app A (fillB B .nil), .ife tT A (fillB B .nil) .nil, app (.whl tT B .nil) (fillB A .nil), app (.ife tT (fillB A .nil) B .nil) tL]
def Good (b : Blk) : Prop := okB b = true ∧ dep b ≤ 20 ∧ wt b ≤ 2000
theorem told_at {K : Nat} {b : Blk} (hK : 24 ≤ K) (g : Good b) : fnK rs gl0 K 23 [.val (pc b)] = some (.val (.bool true), [.un]) := by
  obtain ⟨k, rfl⟩ : ∃ k, K = k + 1 := ⟨K - 1, by omega⟩
  have := g.2.1
  exact told_ok k b g.1 (by omega) g.2.1 g.2.2
theorem told_list {K : Nat} (hK : 24 ≤ K) (a0 a1 a2 a3 a4 a5 a6 a7 a8 a9 : Slo) : ∀ (Ps : List Blk), (∀ b ∈ Ps, Good b) → ∀ s10, ∃ t10, lpS ⟨fnK rs gl0 K, gl0⟩ (.var 10) (.cons (.ifs (.not (.call 23 (.cons (.var 10) .nil))) (.cons (.ret (.bl false)) .nil) .nil) .nil) (Ps.map pc) [a0, a1, a2, a3, a4, a5, a6, a7, a8, a9, s10] = some (.nx [a0, a1, a2, a3, a4, a5, a6, a7, a8, a9, t10])
  | [], _, s10 => ⟨s10, by rw [List.map_nil, lpS_nil]⟩
  | b :: Ps, h, s10 => by
    obtain ⟨t10, e⟩ := told_list hK a0 a1 a2 a3 a4 a5 a6 a7 a8 a9 Ps (fun x hx => h x (List.mem_cons_of_mem _ hx)) (.val (pc b))
    have t := told_at hK (h b (List.mem_cons_self ..))
    refine ⟨t10, ?_⟩
    simp only [List.map_cons, runF, tagA, outsA, oXt_non, oXf_non, oXt_bl, oXf_bl, oXt_int, oXf_int, oXt_str, oXf_str, oXt_glb, oXf_glb, oXt_bin, oXf_bin, oXt_neg, oXf_neg, oXt_not, oXf_not, oXt_cmp, oXf_cmp, oXt_chain, oXf_chain, oXt_and, oXf_and, oXt_or, oXf_or, oXt_ife, oXf_ife, oXt_sub, oXf_sub, oXt_slc, oXf_slc, oXt_rev, oXf_rev, oXt_tup, oXf_tup, oXt_lst, oXf_lst, oXt_call, oXf_call, oXt_prim, oXf_prim, oXt_isi, oXf_isi, oXt_comp, oXf_comp, oXt_app, oXf_app, oXt_ext, oXf_ext, oXt_pop, oXf_pop, oXf_var, oXt_var, oX_lend, eX_var, eX_non, eX_bl, eX_int, eX_str, eX_glb, eX_bin, eX_neg, eX_not, eX_cmp, eX_chain, eX_and, eX_or, eX_ife, eX_sub, eX_slc, eX_rev, eX_tup, eX_lst, eX_call, eX_prim, eX_isi, eX_app, eX_ext, eX_pop, eP_nil, eP_cons, eL_nil, eL_cons, eI_rng2, eI_cons, eS_nil, eS_cons, eS_set, eS_unp, eS_sti, eS_ex, eS_ifs, eS_whl, eS_fors, eS_brk, eS_cnt, eS_pas, eS_retv, eS_ret_non, eS_ret_bl, eS_ret_int, eS_ret_str, eS_ret_glb, eS_ret_bin, eS_ret_neg, eS_ret_not, eS_ret_cmp, eS_ret_chain, eS_ret_and, eS_ret_or, eS_ret_ife, eS_ret_sub, eS_ret_slc, eS_ret_rev, eS_ret_tup, eS_ret_lst, eS_ret_call, eS_ret_prim, eS_ret_isi, eS_ret_comp, eS_ret_app, eS_ret_ext, eS_ret_pop, lpS_nil, lpS_cons, cmS_nil, cmS_cons, rdO, rdS, rdAll, frz, valsOf, argsOf, slotsOf, putBack, slD, seqD, asg, asgs, copD, eqD, truS, List.mapIdx_cons, List.mapIdx_nil, List.getElem?_cons_zero, List.getElem?_cons_succ, List.set_cons_zero, List.set_cons_succ, List.length_cons, List.length_nil, List.cons_append, List.nil_append, List.replicate_zero, List.replicate_succ, List.append_nil, List.nodup_nil, List.nodup_cons, List.not_mem_nil, Nat.sub_self, Nat.add_one_sub_one, Nat.zero_lt_succ, if_true, if_false, eq_self_iff_true, reduceIte, reduceCtorEq, Nat.zero_le, slv, not_false_eq_true, and_self, and_true, true_and, List.singleton_append, Bool.not_true, Bool.not_false, List.foldl_nil, ite_true, ite_false, beq_self_eq_true, Nat.reduceAdd, Nat.reduceLT, Nat.reduceLeDiff, Nat.reduceSub, Nat.reduceEqDiff, Nat.reduceMul, Int.reduceAdd, Int.reduceLT, Int.reduceLE, Int.reduceNeg, Int.reduceEq, Int.reduceSub, decide_true, decide_false, decide_eq_true_eq, cond_true, cond_false, Int.reducePow, t, e]
theorem fill_at {K : Nat} {o b : Blk} (g : okB b = true) (hb : dep b ≤ 8) (hw : wt (fillB b o) ≤ 100000) (hK : 17 ≤ K) : fnK rs gl0 K 3 [.val (.tuple (enc b)), .val (.tuple (enc o))] = some (.val (.tuple (enc (fillB b o))), [.un, .un]) := by
  obtain ⟨k, rfl⟩ : ∃ k, K = k + 1 := ⟨K - 1, by omega⟩
  exact fill_ok o 8 b g hb (by omega) hw k (by omega)
theorem law_ok {K : Nat} (hK : 30 ≤ K) (ns : List Int) : fnK rs gl0 (K + 1) 24 [.val (.list (ns.map PyData.int))] = some (.val (.bool true), [.un]) := by
  obtain ⟨x0, c0⟩ := cell_ok (K := K) (by omega) ns 0
  obtain ⟨x1, c1⟩ := cell_ok (K := K) (by omega) ns 1
  obtain ⟨x2, c2⟩ := cell_ok (K := K) (by omega) ns 2
  have z0 : ((0 : Nat) : Int) = 0 := rfl
  have z1 : ((1 : Nat) : Int) = 1 := rfl
  have z2 : ((2 : Nat) : Int) = 2 := rfl
  have z50 : ((50 : Nat) : Int) = 50 := rfl
  rw [z0] at c0
  rw [z1] at c1
  rw [z2] at c2
  obtain ⟨ds, hl, hb, ed⟩ := draws_ok (K := K) (by omega) x0 2 (by omega)
  rw [z2] at ed
  have hd : subD (.list (ds.map iN)) (.int 0) = some (.int ((ds.getD 0 0 : Nat) : Int)) := dAt (ds := ds) (i := 0) (j := 0) (by omega) rfl
  generalize ds.getD 0 0 = d at hd
  have b7 : bopD .mod (.int (d : Int)) (.int 7) = some (.val (.int ((d % 7 : Nat) : Int))) := by
    simp only [bopD]
    rw [if_pos (by decide)]
    rfl
  obtain ⟨D, hD⟩ : ∃ D, D = 1 + d % 7 := ⟨_, rfl⟩
  have bA : bopD .add (.int 1) (.int ((d % 7 : Nat) : Int)) = some (.val (.int (D : Int))) := by
    rw [hD]
    simp only [bopD]
    congr 3
  have bS : bopD .sub (.int 8) (.int (D : Int)) = some (.val (.int ((8 - D : Nat) : Int))) := by
    simp only [bopD]
    congr 3
    omega
  have hD1 : 1 ≤ D := by omega
  have hD2 : D ≤ 7 := by omega
  obtain ⟨A, okA, dA, wA, eA⟩ := grown_ok (K := K) (by omega) x1 D 0 (by omega) hD1
  obtain ⟨B, okB', dB, wB, eB⟩ := grown_ok (K := K) (by omega) x2 (8 - D) 50 (by omega) (by omega)
  rw [z0] at eA
  rw [z50] at eB
  have wn : wt .nil ≤ 90 := by simp only [wt]; omega
  have gA := eA .nil wn
  have gB := eB .nil wn
  have gAB := eA B (by omega)
  have gBA := eB A (by omega)
  have tLf : Blk.simp "hold" [.tuple [.str "number", .int 99]] .nil = tL := rfl
  have nn := none_ok (K := K) (by omega)
  have eT := lone_simp (K := K) (by omega) tL_okS
  have fA := okB_fill A .nil okA rfl
  have fB := okB_fill B .nil okB' rfl
  have fAB := okB_fill A B okA okB'
  have fBA := okB_fill B A okB' okA
  have uA := wt_fill A .nil
  have uB := wt_fill B .nil
  have wn0 : wt .nil = 0 := rfl
  rw [wn0] at uA uB
  have uAB : wt (fillB A B) ≤ 40 * 41 := Nat.le_trans (wt_fill A B) (Nat.mul_le_mul wA (by omega))
  have uBA : wt (fillB B A) ≤ 40 * 41 := Nat.le_trans (wt_fill B A) (Nat.mul_le_mul wB (by omega))
  have vA := dep_fill A .nil
  have vB := dep_fill B .nil
  have vAB := dep_fill A B
  have vBA := dep_fill B A
  have dn0 : dep .nil = 1 := rfl
  rw [dn0] at vA vB
  have wL : wt tL = 1 := rfl
  have dL : dep tL = 1 := rfl
  have wif : wt (.ife tT (fillB A .nil) B .nil) ≤ 200 := by simp only [wt]; omega
  have wwh : wt (.whl tT B .nil) ≤ 200 := by simp only [wt]; omega
  have b1 := both_ok (K := K) (by omega) A (fillB B .nil) (by omega) (by omega)
  have i1 := if_ok (K := K) (by omega) tT A (fillB B .nil) (by omega) (by omega)
  have w1 := while_ok (K := K) (by omega) tT B (by omega)
  have b2 := both_ok (K := K) (by omega) (.whl tT B .nil) (fillB A .nil) (by omega) (by omega)
  have i2 := if_ok (K := K) (by omega) tT (fillB A .nil) B (by omega) (by omega)
  have b3 := both_ok (K := K) (by omega) (.ife tT (fillB A .nil) B .nil) tL (by omega) (by omega)
  have good : ∀ b ∈ law_pcs A B, Good b := by
    intro b hb
    simp only [law_pcs, List.mem_cons, List.not_mem_nil, or_false] at hb
    rcases hb with rfl | rfl | rfl | rfl | rfl | rfl | rfl | rfl | rfl
    · exact ⟨okA, by omega, by omega⟩
    · exact ⟨okB', by omega, by omega⟩
    · exact ⟨fA, by omega, by omega⟩
    · exact ⟨fAB, by omega, by omega⟩
    · exact ⟨fBA, by omega, by omega⟩
    · exact ⟨by rw [okB_app, okA, fB]; rfl, by rw [dep_app]; omega, by rw [wt_app]; omega⟩
    · exact ⟨by simp only [okB, tT_ok, okA, fB, Bool.and_self], by simp only [dep]; omega, by simp only [wt]; omega⟩
    · exact ⟨by rw [okB_app, fA]; simp only [okB, tT_ok, okB', Bool.and_self], by rw [dep_app]; simp only [dep]; omega, by rw [wt_app]; omega⟩
    · exact ⟨by rw [okB_app, tL_ok]; simp only [okB, tT_ok, okB', fA, Bool.and_self], by rw [dep_app, dL]; simp only [dep]; omega, by rw [wt_app]; omega⟩
  have f1 := fill_at (K := K) (o := B) okA (by omega) (by omega) (by omega)
  have f2 := fill_at (K := K) (o := .nil) okA (by omega) (by omega) (by omega)
  have f3 := fill_at (K := K) (o := A) okB' (by omega) (by omega) (by omega)
  have f4 := fill_at (K := K) (o := .nil) okB' (by omega) (by omega) (by omega)
  have en : enc .nil = [] := rfl
  rw [en] at f2 f4
  have l1 := alike_at (show 1 ≤ K by omega) (fine_enc fAB (by omega) (by omega))
  have l2 := alike_at (show 1 ≤ K by omega) (fine_enc fA (by omega) (by omega))
  have l3 := alike_at (show 1 ≤ K by omega) (fine_enc fBA (by omega) (by omega))
  have l4 := alike_at (show 1 ≤ K by omega) (fine_enc fB (by omega) (by omega))
  have q0 : evS ⟨fnK rs gl0 K, gl0⟩ (.set 1 false (.call 12 (.cons (.call 11 (.cons (.var 0) (.cons (.int 0) .nil))) (.cons (.int 2) .nil)))) [.val (.list (ns.map PyData.int)), .un, .un, .un, .un, .un, .un, .un, .un, .un, .un] = some (.nx [.val (.list (ns.map PyData.int)), .val (.list (ds.map iN)), .un, .un, .un, .un, .un, .un, .un, .un, .un]) := by
    simp only [runF, tagA, outsA, oXt_non, oXf_non, oXt_bl, oXf_bl, oXt_int, oXf_int, oXt_str, oXf_str, oXt_glb, oXf_glb, oXt_bin, oXf_bin, oXt_neg, oXf_neg, oXt_not, oXf_not, oXt_cmp, oXf_cmp, oXt_chain, oXf_chain, oXt_and, oXf_and, oXt_or, oXf_or, oXt_ife, oXf_ife, oXt_sub, oXf_sub, oXt_slc, oXf_slc, oXt_rev, oXf_rev, oXt_tup, oXf_tup, oXt_lst, oXf_lst, oXt_call, oXf_call, oXt_prim, oXf_prim, oXt_isi, oXf_isi, oXt_comp, oXf_comp, oXt_app, oXf_app, oXt_ext, oXf_ext, oXt_pop, oXf_pop, oXf_var, oXt_var, oX_lend, eX_var, eX_non, eX_bl, eX_int, eX_str, eX_glb, eX_bin, eX_neg, eX_not, eX_cmp, eX_chain, eX_and, eX_or, eX_ife, eX_sub, eX_slc, eX_rev, eX_tup, eX_lst, eX_call, eX_prim, eX_isi, eX_app, eX_ext, eX_pop, eP_nil, eP_cons, eL_nil, eL_cons, eI_rng2, eI_cons, eS_nil, eS_cons, eS_set, eS_unp, eS_sti, eS_ex, eS_ifs, eS_whl, eS_fors, eS_brk, eS_cnt, eS_pas, eS_retv, eS_ret_non, eS_ret_bl, eS_ret_int, eS_ret_str, eS_ret_glb, eS_ret_bin, eS_ret_neg, eS_ret_not, eS_ret_cmp, eS_ret_chain, eS_ret_and, eS_ret_or, eS_ret_ife, eS_ret_sub, eS_ret_slc, eS_ret_rev, eS_ret_tup, eS_ret_lst, eS_ret_call, eS_ret_prim, eS_ret_isi, eS_ret_comp, eS_ret_app, eS_ret_ext, eS_ret_pop, lpS_nil, lpS_cons, cmS_nil, cmS_cons, rdO, rdS, rdAll, frz, valsOf, argsOf, slotsOf, putBack, slD, seqD, asg, asgs, copD, eqD, truS, List.mapIdx_cons, List.mapIdx_nil, List.getElem?_cons_zero, List.getElem?_cons_succ, List.set_cons_zero, List.set_cons_succ, List.length_cons, List.length_nil, List.cons_append, List.nil_append, List.replicate_zero, List.replicate_succ, List.append_nil, List.nodup_nil, List.nodup_cons, List.not_mem_nil, Nat.sub_self, Nat.add_one_sub_one, Nat.zero_lt_succ, if_true, if_false, eq_self_iff_true, reduceIte, reduceCtorEq, Nat.zero_le, slv, not_false_eq_true, and_self, and_true, true_and, List.singleton_append, Bool.not_true, Bool.not_false, List.foldl_nil, ite_true, ite_false, beq_self_eq_true, Nat.reduceAdd, Nat.reduceLT, Nat.reduceLeDiff, Nat.reduceSub, Nat.reduceEqDiff, Nat.reduceMul, Int.reduceAdd, Int.reduceLT, Int.reduceLE, Int.reduceNeg, Int.reduceEq, Int.reduceSub, decide_true, decide_false, decide_eq_true_eq, cond_true, cond_false, Int.reducePow, c0, ed]
  have q1 : evS ⟨fnK rs gl0 K, gl0⟩ (.set 2 false (.bin .add (.int 1) (.bin .mod (.prim .int (.cons (.sub (.var 1) (.int 0)) .nil)) (.int 7)))) [.val (.list (ns.map PyData.int)), .val (.list (ds.map iN)), .un, .un, .un, .un, .un, .un, .un, .un, .un] = some (.nx [.val (.list (ns.map PyData.int)), .val (.list (ds.map iN)), .val (.int (D : Int)), .un, .un, .un, .un, .un, .un, .un, .un]) := by
    simp only [runF, tagA, outsA, oXt_non, oXf_non, oXt_bl, oXf_bl, oXt_int, oXf_int, oXt_str, oXf_str, oXt_glb, oXf_glb, oXt_bin, oXf_bin, oXt_neg, oXf_neg, oXt_not, oXf_not, oXt_cmp, oXf_cmp, oXt_chain, oXf_chain, oXt_and, oXf_and, oXt_or, oXf_or, oXt_ife, oXf_ife, oXt_sub, oXf_sub, oXt_slc, oXf_slc, oXt_rev, oXf_rev, oXt_tup, oXf_tup, oXt_lst, oXf_lst, oXt_call, oXf_call, oXt_prim, oXf_prim, oXt_isi, oXf_isi, oXt_comp, oXf_comp, oXt_app, oXf_app, oXt_ext, oXf_ext, oXt_pop, oXf_pop, oXf_var, oXt_var, oX_lend, eX_var, eX_non, eX_bl, eX_int, eX_str, eX_glb, eX_bin, eX_neg, eX_not, eX_cmp, eX_chain, eX_and, eX_or, eX_ife, eX_sub, eX_slc, eX_rev, eX_tup, eX_lst, eX_call, eX_prim, eX_isi, eX_app, eX_ext, eX_pop, eP_nil, eP_cons, eL_nil, eL_cons, eI_rng2, eI_cons, eS_nil, eS_cons, eS_set, eS_unp, eS_sti, eS_ex, eS_ifs, eS_whl, eS_fors, eS_brk, eS_cnt, eS_pas, eS_retv, eS_ret_non, eS_ret_bl, eS_ret_int, eS_ret_str, eS_ret_glb, eS_ret_bin, eS_ret_neg, eS_ret_not, eS_ret_cmp, eS_ret_chain, eS_ret_and, eS_ret_or, eS_ret_ife, eS_ret_sub, eS_ret_slc, eS_ret_rev, eS_ret_tup, eS_ret_lst, eS_ret_call, eS_ret_prim, eS_ret_isi, eS_ret_comp, eS_ret_app, eS_ret_ext, eS_ret_pop, lpS_nil, lpS_cons, cmS_nil, cmS_cons, rdO, rdS, rdAll, frz, valsOf, argsOf, slotsOf, putBack, slD, seqD, asg, asgs, copD, eqD, truS, List.mapIdx_cons, List.mapIdx_nil, List.getElem?_cons_zero, List.getElem?_cons_succ, List.set_cons_zero, List.set_cons_succ, List.length_cons, List.length_nil, List.cons_append, List.nil_append, List.replicate_zero, List.replicate_succ, List.append_nil, List.nodup_nil, List.nodup_cons, List.not_mem_nil, Nat.sub_self, Nat.add_one_sub_one, Nat.zero_lt_succ, if_true, if_false, eq_self_iff_true, reduceIte, reduceCtorEq, Nat.zero_le, slv, not_false_eq_true, and_self, and_true, true_and, List.singleton_append, Bool.not_true, Bool.not_false, List.foldl_nil, ite_true, ite_false, beq_self_eq_true, Nat.reduceAdd, Nat.reduceLT, Nat.reduceLeDiff, Nat.reduceSub, Nat.reduceEqDiff, Nat.reduceMul, Int.reduceAdd, Int.reduceLT, Int.reduceLE, Int.reduceNeg, Int.reduceEq, Int.reduceSub, decide_true, decide_false, decide_eq_true_eq, cond_true, cond_false, Int.reducePow, hd, prI, b7, bA]
  have q2 : evS ⟨fnK rs gl0 K, gl0⟩ (.set 3 false (.call 21 (.cons (.call 11 (.cons (.var 0) (.cons (.int 1) .nil))) (.cons (.var 2) (.cons (.int 0) (.cons (.call 13 .nil) .nil)))))) [.val (.list (ns.map PyData.int)), .val (.list (ds.map iN)), .val (.int (D : Int)), .un, .un, .un, .un, .un, .un, .un, .un] = some (.nx [.val (.list (ns.map PyData.int)), .val (.list (ds.map iN)), .val (.int (D : Int)), .val (prO .nil A), .un, .un, .un, .un, .un, .un, .un]) := by
    simp only [runF, tagA, outsA, oXt_non, oXf_non, oXt_bl, oXf_bl, oXt_int, oXf_int, oXt_str, oXf_str, oXt_glb, oXf_glb, oXt_bin, oXf_bin, oXt_neg, oXf_neg, oXt_not, oXf_not, oXt_cmp, oXf_cmp, oXt_chain, oXf_chain, oXt_and, oXf_and, oXt_or, oXf_or, oXt_ife, oXf_ife, oXt_sub, oXf_sub, oXt_slc, oXf_slc, oXt_rev, oXf_rev, oXt_tup, oXf_tup, oXt_lst, oXf_lst, oXt_call, oXf_call, oXt_prim, oXf_prim, oXt_isi, oXf_isi, oXt_comp, oXf_comp, oXt_app, oXf_app, oXt_ext, oXf_ext, oXt_pop, oXf_pop, oXf_var, oXt_var, oX_lend, eX_var, eX_non, eX_bl, eX_int, eX_str, eX_glb, eX_bin, eX_neg, eX_not, eX_cmp, eX_chain, eX_and, eX_or, eX_ife, eX_sub, eX_slc, eX_rev, eX_tup, eX_lst, eX_call, eX_prim, eX_isi, eX_app, eX_ext, eX_pop, eP_nil, eP_cons, eL_nil, eL_cons, eI_rng2, eI_cons, eS_nil, eS_cons, eS_set, eS_unp, eS_sti, eS_ex, eS_ifs, eS_whl, eS_fors, eS_brk, eS_cnt, eS_pas, eS_retv, eS_ret_non, eS_ret_bl, eS_ret_int, eS_ret_str, eS_ret_glb, eS_ret_bin, eS_ret_neg, eS_ret_not, eS_ret_cmp, eS_ret_chain, eS_ret_and, eS_ret_or, eS_ret_ife, eS_ret_sub, eS_ret_slc, eS_ret_rev, eS_ret_tup, eS_ret_lst, eS_ret_call, eS_ret_prim, eS_ret_isi, eS_ret_comp, eS_ret_app, eS_ret_ext, eS_ret_pop, lpS_nil, lpS_cons, cmS_nil, cmS_cons, rdO, rdS, rdAll, frz, valsOf, argsOf, slotsOf, putBack, slD, seqD, asg, asgs, copD, eqD, truS, List.mapIdx_cons, List.mapIdx_nil, List.getElem?_cons_zero, List.getElem?_cons_succ, List.set_cons_zero, List.set_cons_succ, List.length_cons, List.length_nil, List.cons_append, List.nil_append, List.replicate_zero, List.replicate_succ, List.append_nil, List.nodup_nil, List.nodup_cons, List.not_mem_nil, Nat.sub_self, Nat.add_one_sub_one, Nat.zero_lt_succ, if_true, if_false, eq_self_iff_true, reduceIte, reduceCtorEq, Nat.zero_le, slv, not_false_eq_true, and_self, and_true, true_and, List.singleton_append, Bool.not_true, Bool.not_false, List.foldl_nil, ite_true, ite_false, beq_self_eq_true, Nat.reduceAdd, Nat.reduceLT, Nat.reduceLeDiff, Nat.reduceSub, Nat.reduceEqDiff, Nat.reduceMul, Int.reduceAdd, Int.reduceLT, Int.reduceLE, Int.reduceNeg, Int.reduceEq, Int.reduceSub, decide_true, decide_false, decide_eq_true_eq, cond_true, cond_false, Int.reducePow, c1, nn, pc_fold, gA]
  have q3 : evS ⟨fnK rs gl0 K, gl0⟩ (.set 4 false (.call 21 (.cons (.call 11 (.cons (.var 0) (.cons (.int 2) .nil))) (.cons (.bin .sub (.int 8) (.var 2)) (.cons (.int 50) (.cons (.sub (.var 3) (.int 0)) .nil)))))) [.val (.list (ns.map PyData.int)), .val (.list (ds.map iN)), .val (.int (D : Int)), .val (prO .nil A), .un, .un, .un, .un, .un, .un, .un] = some (.nx [.val (.list (ns.map PyData.int)), .val (.list (ds.map iN)), .val (.int (D : Int)), .val (prO .nil A), .val (prO A B), .un, .un, .un, .un, .un, .un]) := by
    simp only [runF, tagA, outsA, oXt_non, oXf_non, oXt_bl, oXf_bl, oXt_int, oXf_int, oXt_str, oXf_str, oXt_glb, oXf_glb, oXt_bin, oXf_bin, oXt_neg, oXf_neg, oXt_not, oXf_not, oXt_cmp, oXf_cmp, oXt_chain, oXf_chain, oXt_and, oXf_and, oXt_or, oXf_or, oXt_ife, oXf_ife, oXt_sub, oXf_sub, oXt_slc, oXf_slc, oXt_rev, oXf_rev, oXt_tup, oXf_tup, oXt_lst, oXf_lst, oXt_call, oXf_call, oXt_prim, oXf_prim, oXt_isi, oXf_isi, oXt_comp, oXf_comp, oXt_app, oXf_app, oXt_ext, oXf_ext, oXt_pop, oXf_pop, oXf_var, oXt_var, oX_lend, eX_var, eX_non, eX_bl, eX_int, eX_str, eX_glb, eX_bin, eX_neg, eX_not, eX_cmp, eX_chain, eX_and, eX_or, eX_ife, eX_sub, eX_slc, eX_rev, eX_tup, eX_lst, eX_call, eX_prim, eX_isi, eX_app, eX_ext, eX_pop, eP_nil, eP_cons, eL_nil, eL_cons, eI_rng2, eI_cons, eS_nil, eS_cons, eS_set, eS_unp, eS_sti, eS_ex, eS_ifs, eS_whl, eS_fors, eS_brk, eS_cnt, eS_pas, eS_retv, eS_ret_non, eS_ret_bl, eS_ret_int, eS_ret_str, eS_ret_glb, eS_ret_bin, eS_ret_neg, eS_ret_not, eS_ret_cmp, eS_ret_chain, eS_ret_and, eS_ret_or, eS_ret_ife, eS_ret_sub, eS_ret_slc, eS_ret_rev, eS_ret_tup, eS_ret_lst, eS_ret_call, eS_ret_prim, eS_ret_isi, eS_ret_comp, eS_ret_app, eS_ret_ext, eS_ret_pop, lpS_nil, lpS_cons, cmS_nil, cmS_cons, rdO, rdS, rdAll, frz, valsOf, argsOf, slotsOf, putBack, slD, seqD, asg, asgs, copD, eqD, truS, List.mapIdx_cons, List.mapIdx_nil, List.getElem?_cons_zero, List.getElem?_cons_succ, List.set_cons_zero, List.set_cons_succ, List.length_cons, List.length_nil, List.cons_append, List.nil_append, List.replicate_zero, List.replicate_succ, List.append_nil, List.nodup_nil, List.nodup_cons, List.not_mem_nil, Nat.sub_self, Nat.add_one_sub_one, Nat.zero_lt_succ, if_true, if_false, eq_self_iff_true, reduceIte, reduceCtorEq, Nat.zero_le, slv, not_false_eq_true, and_self, and_true, true_and, List.singleton_append, Bool.not_true, Bool.not_false, List.foldl_nil, ite_true, ite_false, beq_self_eq_true, Nat.reduceAdd, Nat.reduceLT, Nat.reduceLeDiff, Nat.reduceSub, Nat.reduceEqDiff, Nat.reduceMul, Int.reduceAdd, Int.reduceLT, Int.reduceLE, Int.reduceNeg, Int.reduceEq, Int.reduceSub, decide_true, decide_false, decide_eq_true_eq, cond_true, cond_false, Int.reducePow, c2, bS, pr0, gBA]
  have q4 : evS ⟨fnK rs gl0 K, gl0⟩ (.set 5 false (.call 21 (.cons (.call 11 (.cons (.var 0) (.cons (.int 2) .nil))) (.cons (.bin .sub (.int 8) (.var 2)) (.cons (.int 50) (.cons (.call 13 .nil) .nil)))))) [.val (.list (ns.map PyData.int)), .val (.list (ds.map iN)), .val (.int (D : Int)), .val (prO .nil A), .val (prO A B), .un, .un, .un, .un, .un, .un] = some (.nx [.val (.list (ns.map PyData.int)), .val (.list (ds.map iN)), .val (.int (D : Int)), .val (prO .nil A), .val (prO A B), .val (prO .nil B), .un, .un, .un, .un, .un]) := by
    simp only [runF, tagA, outsA, oXt_non, oXf_non, oXt_bl, oXf_bl, oXt_int, oXf_int, oXt_str, oXf_str, oXt_glb, oXf_glb, oXt_bin, oXf_bin, oXt_neg, oXf_neg, oXt_not, oXf_not, oXt_cmp, oXf_cmp, oXt_chain, oXf_chain, oXt_and, oXf_and, oXt_or, oXf_or, oXt_ife, oXf_ife, oXt_sub, oXf_sub, oXt_slc, oXf_slc, oXt_rev, oXf_rev, oXt_tup, oXf_tup, oXt_lst, oXf_lst, oXt_call, oXf_call, oXt_prim, oXf_prim, oXt_isi, oXf_isi, oXt_comp, oXf_comp, oXt_app, oXf_app, oXt_ext, oXf_ext, oXt_pop, oXf_pop, oXf_var, oXt_var, oX_lend, eX_var, eX_non, eX_bl, eX_int, eX_str, eX_glb, eX_bin, eX_neg, eX_not, eX_cmp, eX_chain, eX_and, eX_or, eX_ife, eX_sub, eX_slc, eX_rev, eX_tup, eX_lst, eX_call, eX_prim, eX_isi, eX_app, eX_ext, eX_pop, eP_nil, eP_cons, eL_nil, eL_cons, eI_rng2, eI_cons, eS_nil, eS_cons, eS_set, eS_unp, eS_sti, eS_ex, eS_ifs, eS_whl, eS_fors, eS_brk, eS_cnt, eS_pas, eS_retv, eS_ret_non, eS_ret_bl, eS_ret_int, eS_ret_str, eS_ret_glb, eS_ret_bin, eS_ret_neg, eS_ret_not, eS_ret_cmp, eS_ret_chain, eS_ret_and, eS_ret_or, eS_ret_ife, eS_ret_sub, eS_ret_slc, eS_ret_rev, eS_ret_tup, eS_ret_lst, eS_ret_call, eS_ret_prim, eS_ret_isi, eS_ret_comp, eS_ret_app, eS_ret_ext, eS_ret_pop, lpS_nil, lpS_cons, cmS_nil, cmS_cons, rdO, rdS, rdAll, frz, valsOf, argsOf, slotsOf, putBack, slD, seqD, asg, asgs, copD, eqD, truS, List.mapIdx_cons, List.mapIdx_nil, List.getElem?_cons_zero, List.getElem?_cons_succ, List.set_cons_zero, List.set_cons_succ, List.length_cons, List.length_nil, List.cons_append, List.nil_append, List.replicate_zero, List.replicate_succ, List.append_nil, List.nodup_nil, List.nodup_cons, List.not_mem_nil, Nat.sub_self, Nat.add_one_sub_one, Nat.zero_lt_succ, if_true, if_false, eq_self_iff_true, reduceIte, reduceCtorEq, Nat.zero_le, slv, not_false_eq_true, and_self, and_true, true_and, List.singleton_append, Bool.not_true, Bool.not_false, List.foldl_nil, ite_true, ite_false, beq_self_eq_true, Nat.reduceAdd, Nat.reduceLT, Nat.reduceLeDiff, Nat.reduceSub, Nat.reduceEqDiff, Nat.reduceMul, Int.reduceAdd, Int.reduceLT, Int.reduceLE, Int.reduceNeg, Int.reduceEq, Int.reduceSub, decide_true, decide_false, decide_eq_true_eq, cond_true, cond_false, Int.reducePow, c2, bS, nn, pc_fold, gB]
  have q5 : evS ⟨fnK rs gl0 K, gl0⟩ (.set 6 false (.call 21 (.cons (.call 11 (.cons (.var 0) (.cons (.int 1) .nil))) (.cons (.var 2) (.cons (.int 0) (.cons (.sub (.var 4) (.int 0)) .nil)))))) [.val (.list (ns.map PyData.int)), .val (.list (ds.map iN)), .val (.int (D : Int)), .val (prO .nil A), .val (prO A B), .val (prO .nil B), .un, .un, .un, .un, .un] = some (.nx [.val (.list (ns.map PyData.int)), .val (.list (ds.map iN)), .val (.int (D : Int)), .val (prO .nil A), .val (prO A B), .val (prO .nil B), .val (prO B A), .un, .un, .un, .un]) := by
    simp only [runF, tagA, outsA, oXt_non, oXf_non, oXt_bl, oXf_bl, oXt_int, oXf_int, oXt_str, oXf_str, oXt_glb, oXf_glb, oXt_bin, oXf_bin, oXt_neg, oXf_neg, oXt_not, oXf_not, oXt_cmp, oXf_cmp, oXt_chain, oXf_chain, oXt_and, oXf_and, oXt_or, oXf_or, oXt_ife, oXf_ife, oXt_sub, oXf_sub, oXt_slc, oXf_slc, oXt_rev, oXf_rev, oXt_tup, oXf_tup, oXt_lst, oXf_lst, oXt_call, oXf_call, oXt_prim, oXf_prim, oXt_isi, oXf_isi, oXt_comp, oXf_comp, oXt_app, oXf_app, oXt_ext, oXf_ext, oXt_pop, oXf_pop, oXf_var, oXt_var, oX_lend, eX_var, eX_non, eX_bl, eX_int, eX_str, eX_glb, eX_bin, eX_neg, eX_not, eX_cmp, eX_chain, eX_and, eX_or, eX_ife, eX_sub, eX_slc, eX_rev, eX_tup, eX_lst, eX_call, eX_prim, eX_isi, eX_app, eX_ext, eX_pop, eP_nil, eP_cons, eL_nil, eL_cons, eI_rng2, eI_cons, eS_nil, eS_cons, eS_set, eS_unp, eS_sti, eS_ex, eS_ifs, eS_whl, eS_fors, eS_brk, eS_cnt, eS_pas, eS_retv, eS_ret_non, eS_ret_bl, eS_ret_int, eS_ret_str, eS_ret_glb, eS_ret_bin, eS_ret_neg, eS_ret_not, eS_ret_cmp, eS_ret_chain, eS_ret_and, eS_ret_or, eS_ret_ife, eS_ret_sub, eS_ret_slc, eS_ret_rev, eS_ret_tup, eS_ret_lst, eS_ret_call, eS_ret_prim, eS_ret_isi, eS_ret_comp, eS_ret_app, eS_ret_ext, eS_ret_pop, lpS_nil, lpS_cons, cmS_nil, cmS_cons, rdO, rdS, rdAll, frz, valsOf, argsOf, slotsOf, putBack, slD, seqD, asg, asgs, copD, eqD, truS, List.mapIdx_cons, List.mapIdx_nil, List.getElem?_cons_zero, List.getElem?_cons_succ, List.set_cons_zero, List.set_cons_succ, List.length_cons, List.length_nil, List.cons_append, List.nil_append, List.replicate_zero, List.replicate_succ, List.append_nil, List.nodup_nil, List.nodup_cons, List.not_mem_nil, Nat.sub_self, Nat.add_one_sub_one, Nat.zero_lt_succ, if_true, if_false, eq_self_iff_true, reduceIte, reduceCtorEq, Nat.zero_le, slv, not_false_eq_true, and_self, and_true, true_and, List.singleton_append, Bool.not_true, Bool.not_false, List.foldl_nil, ite_true, ite_false, beq_self_eq_true, Nat.reduceAdd, Nat.reduceLT, Nat.reduceLeDiff, Nat.reduceSub, Nat.reduceEqDiff, Nat.reduceMul, Int.reduceAdd, Int.reduceLT, Int.reduceLE, Int.reduceNeg, Int.reduceEq, Int.reduceSub, decide_true, decide_false, decide_eq_true_eq, cond_true, cond_false, Int.reducePow, c1, pr0, gAB]
  have q6 : evS ⟨fnK rs gl0 K, gl0⟩ (.set 7 false (.tup (.cons (.str "==") (.cons (.tup (.cons (.str "name") (.cons (.str "a") .nil))) (.cons (.tup (.cons (.str "none") .nil)) .nil))))) [.val (.list (ns.map PyData.int)), .val (.list (ds.map iN)), .val (.int (D : Int)), .val (prO .nil A), .val (prO A B), .val (prO .nil B), .val (prO B A), .un, .un, .un, .un] = some (.nx [.val (.list (ns.map PyData.int)), .val (.list (ds.map iN)), .val (.int (D : Int)), .val (prO .nil A), .val (prO A B), .val (prO .nil B), .val (prO B A), .val tT, .un, .un, .un]) := by
    simp only [runF, tagA, outsA, oXt_non, oXf_non, oXt_bl, oXf_bl, oXt_int, oXf_int, oXt_str, oXf_str, oXt_glb, oXf_glb, oXt_bin, oXf_bin, oXt_neg, oXf_neg, oXt_not, oXf_not, oXt_cmp, oXf_cmp, oXt_chain, oXf_chain, oXt_and, oXf_and, oXt_or, oXf_or, oXt_ife, oXf_ife, oXt_sub, oXf_sub, oXt_slc, oXf_slc, oXt_rev, oXf_rev, oXt_tup, oXf_tup, oXt_lst, oXf_lst, oXt_call, oXf_call, oXt_prim, oXf_prim, oXt_isi, oXf_isi, oXt_comp, oXf_comp, oXt_app, oXf_app, oXt_ext, oXf_ext, oXt_pop, oXf_pop, oXf_var, oXt_var, oX_lend, eX_var, eX_non, eX_bl, eX_int, eX_str, eX_glb, eX_bin, eX_neg, eX_not, eX_cmp, eX_chain, eX_and, eX_or, eX_ife, eX_sub, eX_slc, eX_rev, eX_tup, eX_lst, eX_call, eX_prim, eX_isi, eX_app, eX_ext, eX_pop, eP_nil, eP_cons, eL_nil, eL_cons, eI_rng2, eI_cons, eS_nil, eS_cons, eS_set, eS_unp, eS_sti, eS_ex, eS_ifs, eS_whl, eS_fors, eS_brk, eS_cnt, eS_pas, eS_retv, eS_ret_non, eS_ret_bl, eS_ret_int, eS_ret_str, eS_ret_glb, eS_ret_bin, eS_ret_neg, eS_ret_not, eS_ret_cmp, eS_ret_chain, eS_ret_and, eS_ret_or, eS_ret_ife, eS_ret_sub, eS_ret_slc, eS_ret_rev, eS_ret_tup, eS_ret_lst, eS_ret_call, eS_ret_prim, eS_ret_isi, eS_ret_comp, eS_ret_app, eS_ret_ext, eS_ret_pop, lpS_nil, lpS_cons, cmS_nil, cmS_cons, rdO, rdS, rdAll, frz, valsOf, argsOf, slotsOf, putBack, slD, seqD, asg, asgs, copD, eqD, truS, List.mapIdx_cons, List.mapIdx_nil, List.getElem?_cons_zero, List.getElem?_cons_succ, List.set_cons_zero, List.set_cons_succ, List.length_cons, List.length_nil, List.cons_append, List.nil_append, List.replicate_zero, List.replicate_succ, List.append_nil, List.nodup_nil, List.nodup_cons, List.not_mem_nil, Nat.sub_self, Nat.add_one_sub_one, Nat.zero_lt_succ, if_true, if_false, eq_self_iff_true, reduceIte, reduceCtorEq, Nat.zero_le, slv, not_false_eq_true, and_self, and_true, true_and, List.singleton_append, Bool.not_true, Bool.not_false, List.foldl_nil, ite_true, ite_false, beq_self_eq_true, Nat.reduceAdd, Nat.reduceLT, Nat.reduceLeDiff, Nat.reduceSub, Nat.reduceEqDiff, Nat.reduceMul, Int.reduceAdd, Int.reduceLT, Int.reduceLE, Int.reduceNeg, Int.reduceEq, Int.reduceSub, decide_true, decide_false, decide_eq_true_eq, cond_true, cond_false, Int.reducePow]
    rfl
  have q7 : evS ⟨fnK rs gl0 K, gl0⟩ (.set 8 false (.call 14 (.cons (.tup (.cons (.str "hold") (.cons (.tup (.cons (.str "number") (.cons (.int 99) .nil))) .nil))) .nil))) [.val (.list (ns.map PyData.int)), .val (.list (ds.map iN)), .val (.int (D : Int)), .val (prO .nil A), .val (prO A B), .val (prO .nil B), .val (prO B A), .val tT, .un, .un, .un] = some (.nx [.val (.list (ns.map PyData.int)), .val (.list (ds.map iN)), .val (.int (D : Int)), .val (prO .nil A), .val (prO A B), .val (prO .nil B), .val (prO B A), .val tT, .val (pc tL), .un, .un]) := by
    simp only [runF, tagA, outsA, oXt_non, oXf_non, oXt_bl, oXf_bl, oXt_int, oXf_int, oXt_str, oXf_str, oXt_glb, oXf_glb, oXt_bin, oXf_bin, oXt_neg, oXf_neg, oXt_not, oXf_not, oXt_cmp, oXf_cmp, oXt_chain, oXf_chain, oXt_and, oXf_and, oXt_or, oXf_or, oXt_ife, oXf_ife, oXt_sub, oXf_sub, oXt_slc, oXf_slc, oXt_rev, oXf_rev, oXt_tup, oXf_tup, oXt_lst, oXf_lst, oXt_call, oXf_call, oXt_prim, oXf_prim, oXt_isi, oXf_isi, oXt_comp, oXf_comp, oXt_app, oXf_app, oXt_ext, oXf_ext, oXt_pop, oXf_pop, oXf_var, oXt_var, oX_lend, eX_var, eX_non, eX_bl, eX_int, eX_str, eX_glb, eX_bin, eX_neg, eX_not, eX_cmp, eX_chain, eX_and, eX_or, eX_ife, eX_sub, eX_slc, eX_rev, eX_tup, eX_lst, eX_call, eX_prim, eX_isi, eX_app, eX_ext, eX_pop, eP_nil, eP_cons, eL_nil, eL_cons, eI_rng2, eI_cons, eS_nil, eS_cons, eS_set, eS_unp, eS_sti, eS_ex, eS_ifs, eS_whl, eS_fors, eS_brk, eS_cnt, eS_pas, eS_retv, eS_ret_non, eS_ret_bl, eS_ret_int, eS_ret_str, eS_ret_glb, eS_ret_bin, eS_ret_neg, eS_ret_not, eS_ret_cmp, eS_ret_chain, eS_ret_and, eS_ret_or, eS_ret_ife, eS_ret_sub, eS_ret_slc, eS_ret_rev, eS_ret_tup, eS_ret_lst, eS_ret_call, eS_ret_prim, eS_ret_isi, eS_ret_comp, eS_ret_app, eS_ret_ext, eS_ret_pop, lpS_nil, lpS_cons, cmS_nil, cmS_cons, rdO, rdS, rdAll, frz, valsOf, argsOf, slotsOf, putBack, slD, seqD, asg, asgs, copD, eqD, truS, List.mapIdx_cons, List.mapIdx_nil, List.getElem?_cons_zero, List.getElem?_cons_succ, List.set_cons_zero, List.set_cons_succ, List.length_cons, List.length_nil, List.cons_append, List.nil_append, List.replicate_zero, List.replicate_succ, List.append_nil, List.nodup_nil, List.nodup_cons, List.not_mem_nil, Nat.sub_self, Nat.add_one_sub_one, Nat.zero_lt_succ, if_true, if_false, eq_self_iff_true, reduceIte, reduceCtorEq, Nat.zero_le, slv, not_false_eq_true, and_self, and_true, true_and, List.singleton_append, Bool.not_true, Bool.not_false, List.foldl_nil, ite_true, ite_false, beq_self_eq_true, Nat.reduceAdd, Nat.reduceLT, Nat.reduceLeDiff, Nat.reduceSub, Nat.reduceEqDiff, Nat.reduceMul, Int.reduceAdd, Int.reduceLT, Int.reduceLE, Int.reduceNeg, Int.reduceEq, Int.reduceSub, decide_true, decide_false, decide_eq_true_eq, cond_true, cond_false, Int.reducePow, eT, tLf, pc_fold]
  have q8 : evS ⟨fnK rs gl0 K, gl0⟩ (.set 9 false (.lst (.cons (.sub (.var 6) (.int 0)) (.cons (.sub (.var 4) (.int 0)) (.cons (.sub (.var 3) (.int 1)) (.cons (.sub (.var 6) (.int 1)) (.cons (.sub (.var 4) (.int 1)) (.cons (.call 16 (.cons (.sub (.var 6) (.int 0)) (.cons (.sub (.var 5) (.int 1)) .nil))) (.cons (.call 17 (.cons (.var 7) (.cons (.sub (.var 6) (.int 0)) (.cons (.sub (.var 5) (.int 1)) .nil)))) (.cons (.call 16 (.cons (.call 18 (.cons (.var 7) (.cons (.sub (.var 4) (.int 0)) .nil))) (.cons (.sub (.var 3) (.int 1)) .nil))) (.cons (.call 16 (.cons (.call 17 (.cons (.var 7) (.cons (.sub (.var 3) (.int 1)) (.cons (.sub (.var 4) (.int 0)) .nil)))) (.cons (.var 8) .nil))) .nil))))))))))) [.val (.list (ns.map PyData.int)), .val (.list (ds.map iN)), .val (.int (D : Int)), .val (prO .nil A), .val (prO A B), .val (prO .nil B), .val (prO B A), .val tT, .val (pc tL), .un, .un] = some (.nx [.val (.list (ns.map PyData.int)), .val (.list (ds.map iN)), .val (.int (D : Int)), .val (prO .nil A), .val (prO A B), .val (prO .nil B), .val (prO B A), .val tT, .val (pc tL), .val (.list ((law_pcs A B).map pc)), .un]) := by
    simp only [law_pcs, List.map_cons, List.map_nil, runF, tagA, outsA, oXt_non, oXf_non, oXt_bl, oXf_bl, oXt_int, oXf_int, oXt_str, oXf_str, oXt_glb, oXf_glb, oXt_bin, oXf_bin, oXt_neg, oXf_neg, oXt_not, oXf_not, oXt_cmp, oXf_cmp, oXt_chain, oXf_chain, oXt_and, oXf_and, oXt_or, oXf_or, oXt_ife, oXf_ife, oXt_sub, oXf_sub, oXt_slc, oXf_slc, oXt_rev, oXf_rev, oXt_tup, oXf_tup, oXt_lst, oXf_lst, oXt_call, oXf_call, oXt_prim, oXf_prim, oXt_isi, oXf_isi, oXt_comp, oXf_comp, oXt_app, oXf_app, oXt_ext, oXf_ext, oXt_pop, oXf_pop, oXf_var, oXt_var, oX_lend, eX_var, eX_non, eX_bl, eX_int, eX_str, eX_glb, eX_bin, eX_neg, eX_not, eX_cmp, eX_chain, eX_and, eX_or, eX_ife, eX_sub, eX_slc, eX_rev, eX_tup, eX_lst, eX_call, eX_prim, eX_isi, eX_app, eX_ext, eX_pop, eP_nil, eP_cons, eL_nil, eL_cons, eI_rng2, eI_cons, eS_nil, eS_cons, eS_set, eS_unp, eS_sti, eS_ex, eS_ifs, eS_whl, eS_fors, eS_brk, eS_cnt, eS_pas, eS_retv, eS_ret_non, eS_ret_bl, eS_ret_int, eS_ret_str, eS_ret_glb, eS_ret_bin, eS_ret_neg, eS_ret_not, eS_ret_cmp, eS_ret_chain, eS_ret_and, eS_ret_or, eS_ret_ife, eS_ret_sub, eS_ret_slc, eS_ret_rev, eS_ret_tup, eS_ret_lst, eS_ret_call, eS_ret_prim, eS_ret_isi, eS_ret_comp, eS_ret_app, eS_ret_ext, eS_ret_pop, lpS_nil, lpS_cons, cmS_nil, cmS_cons, rdO, rdS, rdAll, frz, valsOf, argsOf, slotsOf, putBack, slD, seqD, asg, asgs, copD, eqD, truS, List.mapIdx_cons, List.mapIdx_nil, List.getElem?_cons_zero, List.getElem?_cons_succ, List.set_cons_zero, List.set_cons_succ, List.length_cons, List.length_nil, List.cons_append, List.nil_append, List.replicate_zero, List.replicate_succ, List.append_nil, List.nodup_nil, List.nodup_cons, List.not_mem_nil, Nat.sub_self, Nat.add_one_sub_one, Nat.zero_lt_succ, if_true, if_false, eq_self_iff_true, reduceIte, reduceCtorEq, Nat.zero_le, slv, not_false_eq_true, and_self, and_true, true_and, List.singleton_append, Bool.not_true, Bool.not_false, List.foldl_nil, ite_true, ite_false, beq_self_eq_true, Nat.reduceAdd, Nat.reduceLT, Nat.reduceLeDiff, Nat.reduceSub, Nat.reduceEqDiff, Nat.reduceMul, Int.reduceAdd, Int.reduceLT, Int.reduceLE, Int.reduceNeg, Int.reduceEq, Int.reduceSub, decide_true, decide_false, decide_eq_true_eq, cond_true, cond_false, Int.reducePow, pr0, pr1, b1, i1, w1, b2, i2, b3, pc_fold]
  obtain ⟨t10, eL⟩ := told_list (K := K) (by omega) (.val (.list (ns.map PyData.int))) (.val (.list (ds.map iN))) (.val (.int (D : Int))) (.val (prO .nil A)) (.val (prO A B)) (.val (prO .nil B)) (.val (prO B A)) (.val tT) (.val (pc tL)) (.val (.list ((law_pcs A B).map pc))) (law_pcs A B) good .un
  have q9 : evS ⟨fnK rs gl0 K, gl0⟩ (.fors (.var 10) (.cons (.var 9) .nil) (.cons (.ifs (.not (.call 23 (.cons (.var 10) .nil))) (.cons (.ret (.bl false)) .nil) .nil) .nil)) [.val (.list (ns.map PyData.int)), .val (.list (ds.map iN)), .val (.int (D : Int)), .val (prO .nil A), .val (prO A B), .val (prO .nil B), .val (prO B A), .val tT, .val (pc tL), .val (.list ((law_pcs A B).map pc)), .un] = some (.nx [.val (.list (ns.map PyData.int)), .val (.list (ds.map iN)), .val (.int (D : Int)), .val (prO .nil A), .val (prO A B), .val (prO .nil B), .val (prO B A), .val tT, .val (pc tL), .val (.list ((law_pcs A B).map pc)), t10]) := by
    simp only [runF, tagA, outsA, oXt_non, oXf_non, oXt_bl, oXf_bl, oXt_int, oXf_int, oXt_str, oXf_str, oXt_glb, oXf_glb, oXt_bin, oXf_bin, oXt_neg, oXf_neg, oXt_not, oXf_not, oXt_cmp, oXf_cmp, oXt_chain, oXf_chain, oXt_and, oXf_and, oXt_or, oXf_or, oXt_ife, oXf_ife, oXt_sub, oXf_sub, oXt_slc, oXf_slc, oXt_rev, oXf_rev, oXt_tup, oXf_tup, oXt_lst, oXf_lst, oXt_call, oXf_call, oXt_prim, oXf_prim, oXt_isi, oXf_isi, oXt_comp, oXf_comp, oXt_app, oXf_app, oXt_ext, oXf_ext, oXt_pop, oXf_pop, oXf_var, oXt_var, oX_lend, eX_var, eX_non, eX_bl, eX_int, eX_str, eX_glb, eX_bin, eX_neg, eX_not, eX_cmp, eX_chain, eX_and, eX_or, eX_ife, eX_sub, eX_slc, eX_rev, eX_tup, eX_lst, eX_call, eX_prim, eX_isi, eX_app, eX_ext, eX_pop, eP_nil, eP_cons, eL_nil, eL_cons, eI_rng2, eI_cons, eS_nil, eS_cons, eS_set, eS_unp, eS_sti, eS_ex, eS_ifs, eS_whl, eS_fors, eS_brk, eS_cnt, eS_pas, eS_retv, eS_ret_non, eS_ret_bl, eS_ret_int, eS_ret_str, eS_ret_glb, eS_ret_bin, eS_ret_neg, eS_ret_not, eS_ret_cmp, eS_ret_chain, eS_ret_and, eS_ret_or, eS_ret_ife, eS_ret_sub, eS_ret_slc, eS_ret_rev, eS_ret_tup, eS_ret_lst, eS_ret_call, eS_ret_prim, eS_ret_isi, eS_ret_comp, eS_ret_app, eS_ret_ext, eS_ret_pop, lpS_nil, lpS_cons, cmS_nil, cmS_cons, rdO, rdS, rdAll, frz, valsOf, argsOf, slotsOf, putBack, slD, seqD, asg, asgs, copD, eqD, truS, List.mapIdx_cons, List.mapIdx_nil, List.getElem?_cons_zero, List.getElem?_cons_succ, List.set_cons_zero, List.set_cons_succ, List.length_cons, List.length_nil, List.cons_append, List.nil_append, List.replicate_zero, List.replicate_succ, List.append_nil, List.nodup_nil, List.nodup_cons, List.not_mem_nil, Nat.sub_self, Nat.add_one_sub_one, Nat.zero_lt_succ, if_true, if_false, eq_self_iff_true, reduceIte, reduceCtorEq, Nat.zero_le, slv, not_false_eq_true, and_self, and_true, true_and, List.singleton_append, Bool.not_true, Bool.not_false, List.foldl_nil, ite_true, ite_false, beq_self_eq_true, Nat.reduceAdd, Nat.reduceLT, Nat.reduceLeDiff, Nat.reduceSub, Nat.reduceEqDiff, Nat.reduceMul, Int.reduceAdd, Int.reduceLT, Int.reduceLE, Int.reduceNeg, Int.reduceEq, Int.reduceSub, decide_true, decide_false, decide_eq_true_eq, cond_true, cond_false, Int.reducePow, eL]
  have q10 : evS ⟨fnK rs gl0 K, gl0⟩ (.ifs (.or (.not (.call 22 (.cons (.call 3 (.cons (.sub (.sub (.var 6) (.int 0)) (.int 0)) (.cons (.sub (.sub (.var 4) (.int 0)) (.int 0)) .nil))) (.cons (.sub (.sub (.var 6) (.int 1)) (.int 0)) .nil)))) (.not (.call 22 (.cons (.call 3 (.cons (.sub (.sub (.var 6) (.int 0)) (.int 0)) (.cons (.tup .nil) .nil))) (.cons (.sub (.sub (.var 3) (.int 1)) (.int 0)) .nil))))) (.cons (.ret (.bl false)) .nil) .nil) [.val (.list (ns.map PyData.int)), .val (.list (ds.map iN)), .val (.int (D : Int)), .val (prO .nil A), .val (prO A B), .val (prO .nil B), .val (prO B A), .val tT, .val (pc tL), .val (.list ((law_pcs A B).map pc)), t10] = some (.nx [.val (.list (ns.map PyData.int)), .val (.list (ds.map iN)), .val (.int (D : Int)), .val (prO .nil A), .val (prO A B), .val (prO .nil B), .val (prO B A), .val tT, .val (pc tL), .val (.list ((law_pcs A B).map pc)), t10]) := by
    simp only [runF, tagA, outsA, oXt_non, oXf_non, oXt_bl, oXf_bl, oXt_int, oXf_int, oXt_str, oXf_str, oXt_glb, oXf_glb, oXt_bin, oXf_bin, oXt_neg, oXf_neg, oXt_not, oXf_not, oXt_cmp, oXf_cmp, oXt_chain, oXf_chain, oXt_and, oXf_and, oXt_or, oXf_or, oXt_ife, oXf_ife, oXt_sub, oXf_sub, oXt_slc, oXf_slc, oXt_rev, oXf_rev, oXt_tup, oXf_tup, oXt_lst, oXf_lst, oXt_call, oXf_call, oXt_prim, oXf_prim, oXt_isi, oXf_isi, oXt_comp, oXf_comp, oXt_app, oXf_app, oXt_ext, oXf_ext, oXt_pop, oXf_pop, oXf_var, oXt_var, oX_lend, eX_var, eX_non, eX_bl, eX_int, eX_str, eX_glb, eX_bin, eX_neg, eX_not, eX_cmp, eX_chain, eX_and, eX_or, eX_ife, eX_sub, eX_slc, eX_rev, eX_tup, eX_lst, eX_call, eX_prim, eX_isi, eX_app, eX_ext, eX_pop, eP_nil, eP_cons, eL_nil, eL_cons, eI_rng2, eI_cons, eS_nil, eS_cons, eS_set, eS_unp, eS_sti, eS_ex, eS_ifs, eS_whl, eS_fors, eS_brk, eS_cnt, eS_pas, eS_retv, eS_ret_non, eS_ret_bl, eS_ret_int, eS_ret_str, eS_ret_glb, eS_ret_bin, eS_ret_neg, eS_ret_not, eS_ret_cmp, eS_ret_chain, eS_ret_and, eS_ret_or, eS_ret_ife, eS_ret_sub, eS_ret_slc, eS_ret_rev, eS_ret_tup, eS_ret_lst, eS_ret_call, eS_ret_prim, eS_ret_isi, eS_ret_comp, eS_ret_app, eS_ret_ext, eS_ret_pop, lpS_nil, lpS_cons, cmS_nil, cmS_cons, rdO, rdS, rdAll, frz, valsOf, argsOf, slotsOf, putBack, slD, seqD, asg, asgs, copD, eqD, truS, List.mapIdx_cons, List.mapIdx_nil, List.getElem?_cons_zero, List.getElem?_cons_succ, List.set_cons_zero, List.set_cons_succ, List.length_cons, List.length_nil, List.cons_append, List.nil_append, List.replicate_zero, List.replicate_succ, List.append_nil, List.nodup_nil, List.nodup_cons, List.not_mem_nil, Nat.sub_self, Nat.add_one_sub_one, Nat.zero_lt_succ, if_true, if_false, eq_self_iff_true, reduceIte, reduceCtorEq, Nat.zero_le, slv, not_false_eq_true, and_self, and_true, true_and, List.singleton_append, Bool.not_true, Bool.not_false, List.foldl_nil, ite_true, ite_false, beq_self_eq_true, Nat.reduceAdd, Nat.reduceLT, Nat.reduceLeDiff, Nat.reduceSub, Nat.reduceEqDiff, Nat.reduceMul, Int.reduceAdd, Int.reduceLT, Int.reduceLE, Int.reduceNeg, Int.reduceEq, Int.reduceSub, decide_true, decide_false, decide_eq_true_eq, cond_true, cond_false, Int.reducePow, pr0, pr1, sq0, f1, f2, l1, l2]
  have q11 : evS ⟨fnK rs gl0 K, gl0⟩ (.ret (.and (.call 22 (.cons (.call 3 (.cons (.sub (.sub (.var 4) (.int 0)) (.int 0)) (.cons (.sub (.sub (.var 6) (.int 0)) (.int 0)) .nil))) (.cons (.sub (.sub (.var 4) (.int 1)) (.int 0)) .nil))) (.call 22 (.cons (.call 3 (.cons (.sub (.sub (.var 4) (.int 0)) (.int 0)) (.cons (.tup .nil) .nil))) (.cons (.sub (.sub (.var 5) (.int 1)) (.int 0)) .nil))))) [.val (.list (ns.map PyData.int)), .val (.list (ds.map iN)), .val (.int (D : Int)), .val (prO .nil A), .val (prO A B), .val (prO .nil B), .val (prO B A), .val tT, .val (pc tL), .val (.list ((law_pcs A B).map pc)), t10] = some (.rt (.val (.bool true)) [.val (.list (ns.map PyData.int)), .val (.list (ds.map iN)), .val (.int (D : Int)), .val (prO .nil A), .val (prO A B), .val (prO .nil B), .val (prO B A), .val tT, .val (pc tL), .val (.list ((law_pcs A B).map pc)), t10]) := by
    simp only [runF, tagA, outsA, oXt_non, oXf_non, oXt_bl, oXf_bl, oXt_int, oXf_int, oXt_str, oXf_str, oXt_glb, oXf_glb, oXt_bin, oXf_bin, oXt_neg, oXf_neg, oXt_not, oXf_not, oXt_cmp, oXf_cmp, oXt_chain, oXf_chain, oXt_and, oXf_and, oXt_or, oXf_or, oXt_ife, oXf_ife, oXt_sub, oXf_sub, oXt_slc, oXf_slc, oXt_rev, oXf_rev, oXt_tup, oXf_tup, oXt_lst, oXf_lst, oXt_call, oXf_call, oXt_prim, oXf_prim, oXt_isi, oXf_isi, oXt_comp, oXf_comp, oXt_app, oXf_app, oXt_ext, oXf_ext, oXt_pop, oXf_pop, oXf_var, oXt_var, oX_lend, eX_var, eX_non, eX_bl, eX_int, eX_str, eX_glb, eX_bin, eX_neg, eX_not, eX_cmp, eX_chain, eX_and, eX_or, eX_ife, eX_sub, eX_slc, eX_rev, eX_tup, eX_lst, eX_call, eX_prim, eX_isi, eX_app, eX_ext, eX_pop, eP_nil, eP_cons, eL_nil, eL_cons, eI_rng2, eI_cons, eS_nil, eS_cons, eS_set, eS_unp, eS_sti, eS_ex, eS_ifs, eS_whl, eS_fors, eS_brk, eS_cnt, eS_pas, eS_retv, eS_ret_non, eS_ret_bl, eS_ret_int, eS_ret_str, eS_ret_glb, eS_ret_bin, eS_ret_neg, eS_ret_not, eS_ret_cmp, eS_ret_chain, eS_ret_and, eS_ret_or, eS_ret_ife, eS_ret_sub, eS_ret_slc, eS_ret_rev, eS_ret_tup, eS_ret_lst, eS_ret_call, eS_ret_prim, eS_ret_isi, eS_ret_comp, eS_ret_app, eS_ret_ext, eS_ret_pop, lpS_nil, lpS_cons, cmS_nil, cmS_cons, rdO, rdS, rdAll, frz, valsOf, argsOf, slotsOf, putBack, slD, seqD, asg, asgs, copD, eqD, truS, List.mapIdx_cons, List.mapIdx_nil, List.getElem?_cons_zero, List.getElem?_cons_succ, List.set_cons_zero, List.set_cons_succ, List.length_cons, List.length_nil, List.cons_append, List.nil_append, List.replicate_zero, List.replicate_succ, List.append_nil, List.nodup_nil, List.nodup_cons, List.not_mem_nil, Nat.sub_self, Nat.add_one_sub_one, Nat.zero_lt_succ, if_true, if_false, eq_self_iff_true, reduceIte, reduceCtorEq, Nat.zero_le, slv, not_false_eq_true, and_self, and_true, true_and, List.singleton_append, Bool.not_true, Bool.not_false, List.foldl_nil, ite_true, ite_false, beq_self_eq_true, Nat.reduceAdd, Nat.reduceLT, Nat.reduceLeDiff, Nat.reduceSub, Nat.reduceEqDiff, Nat.reduceMul, Int.reduceAdd, Int.reduceLT, Int.reduceLE, Int.reduceNeg, Int.reduceEq, Int.reduceSub, decide_true, decide_false, decide_eq_true_eq, cond_true, cond_false, Int.reducePow, pr0, pr1, sq0, f3, f4, l3, l4]
  rw [run24]
  simp only [runF, tagA, outsA, oXt_non, oXf_non, oXt_bl, oXf_bl, oXt_int, oXf_int, oXt_str, oXf_str, oXt_glb, oXf_glb, oXt_bin, oXf_bin, oXt_neg, oXf_neg, oXt_not, oXf_not, oXt_cmp, oXf_cmp, oXt_chain, oXf_chain, oXt_and, oXf_and, oXt_or, oXf_or, oXt_ife, oXf_ife, oXt_sub, oXf_sub, oXt_slc, oXf_slc, oXt_rev, oXf_rev, oXt_tup, oXf_tup, oXt_lst, oXf_lst, oXt_call, oXf_call, oXt_prim, oXf_prim, oXt_isi, oXf_isi, oXt_comp, oXf_comp, oXt_app, oXf_app, oXt_ext, oXf_ext, oXt_pop, oXf_pop, oXf_var, oXt_var, oX_lend, eX_var, eX_non, eX_bl, eX_int, eX_str, eX_glb, eX_bin, eX_neg, eX_not, eX_cmp, eX_chain, eX_and, eX_or, eX_ife, eX_sub, eX_slc, eX_rev, eX_tup, eX_lst, eX_call, eX_prim, eX_isi, eX_app, eX_ext, eX_pop, eP_nil, eP_cons, eL_nil, eL_cons, eI_rng2, eI_cons, eS_nil, eS_cons, eS_set, eS_unp, eS_sti, eS_ex, eS_ifs, eS_whl, eS_fors, eS_brk, eS_cnt, eS_pas, eS_retv, eS_ret_non, eS_ret_bl, eS_ret_int, eS_ret_str, eS_ret_glb, eS_ret_bin, eS_ret_neg, eS_ret_not, eS_ret_cmp, eS_ret_chain, eS_ret_and, eS_ret_or, eS_ret_ife, eS_ret_sub, eS_ret_slc, eS_ret_rev, eS_ret_tup, eS_ret_lst, eS_ret_call, eS_ret_prim, eS_ret_isi, eS_ret_comp, eS_ret_app, eS_ret_ext, eS_ret_pop, lpS_nil, lpS_cons, cmS_nil, cmS_cons, rdO, rdS, rdAll, frz, valsOf, argsOf, slotsOf, putBack, slD, seqD, asg, asgs, copD, eqD, truS, List.mapIdx_cons, List.mapIdx_nil, List.getElem?_cons_zero, List.getElem?_cons_succ, List.set_cons_zero, List.set_cons_succ, List.length_cons, List.length_nil, List.cons_append, List.nil_append, List.replicate_zero, List.replicate_succ, List.append_nil, List.nodup_nil, List.nodup_cons, List.not_mem_nil, Nat.sub_self, Nat.add_one_sub_one, Nat.zero_lt_succ, if_true, if_false, eq_self_iff_true, reduceIte, reduceCtorEq, Nat.zero_le, slv, not_false_eq_true, and_self, and_true, true_and, List.singleton_append, Bool.not_true, Bool.not_false, List.foldl_nil, ite_true, ite_false, beq_self_eq_true, Nat.reduceAdd, Nat.reduceLT, Nat.reduceLeDiff, Nat.reduceSub, Nat.reduceEqDiff, Nat.reduceMul, Int.reduceAdd, Int.reduceLT, Int.reduceLE, Int.reduceNeg, Int.reduceEq, Int.reduceSub, decide_true, decide_false, decide_eq_true_eq, cond_true, cond_false, Int.reducePow, q0, q1, q2, q3, q4, q5, q6, q7, q8, q9, q10, q11]
theorem win : ∀ K, Wins K (spF K 1 (fnK rs gl0 40 24)) := fun K => wins_of fun ns _ => ⟨_, law_ok (K := 39) (by omega) ns⟩
end Lw

set_option Elab.async false
set_option linter.all false
set_option maxRecDepth 100000
set_option maxHeartbeats 4000000
namespace Lw
open PySem PySem.Spec PyProof.Rows L2 Dv
section
variable {P : Program} {w : World} {K : PySem.W.Frag} {h : Heap} {mg : Str → Option Value} {fa : Addr}
theorem all_mk (X : K.In h) (G : h.Ns mainGlobals mg) (hfa : mg "law" = some (.ref fa))
    {f0 : Addr} {od0 an0 : Option Addr} {sl0 : Array (Option Value)} {oc0 kV0 dc0 pm0 cd0 ct0 : Value}
    {f1 : Addr} {od1 an1 : Option Addr} {sl1 : Array (Option Value)} {oc1 kV1 dc1 pm1 cd1 ct1 : Value}
    {f2 : Addr} {od2 an2 : Option Addr} {sl2 : Array (Option Value)} {oc2 kV2 dc2 pm2 cd2 ct2 : Value}
    {f3 : Addr} {od3 an3 : Option Addr} {sl3 : Array (Option Value)} {oc3 kV3 dc3 pm3 cd3 ct3 : Value}
    {f4 : Addr} {od4 an4 : Option Addr} {sl4 : Array (Option Value)} {oc4 kV4 dc4 pm4 cd4 ct4 : Value}
    {f5 : Addr} {od5 an5 : Option Addr} {sl5 : Array (Option Value)} {oc5 kV5 dc5 pm5 cd5 ct5 : Value}
    {f6 : Addr} {od6 an6 : Option Addr} {sl6 : Array (Option Value)} {oc6 kV6 dc6 pm6 cd6 ct6 : Value}
    {f7 : Addr} {od7 an7 : Option Addr} {sl7 : Array (Option Value)} {oc7 kV7 dc7 pm7 cd7 ct7 : Value}
    {f8 : Addr} {od8 an8 : Option Addr} {sl8 : Array (Option Value)} {oc8 kV8 dc8 pm8 cd8 ct8 : Value}
    {f9 : Addr} {od9 an9 : Option Addr} {sl9 : Array (Option Value)} {oc9 kV9 dc9 pm9 cd9 ct9 : Value}
    {f10 : Addr} {od10 an10 : Option Addr} {sl10 : Array (Option Value)} {oc10 kV10 dc10 pm10 cd10 ct10 : Value}
    {f11 : Addr} {od11 an11 : Option Addr} {sl11 : Array (Option Value)} {oc11 kV11 dc11 pm11 cd11 ct11 : Value}
    {f12 : Addr} {od12 an12 : Option Addr} {sl12 : Array (Option Value)} {oc12 kV12 dc12 pm12 cd12 ct12 : Value}
    {f13 : Addr} {od13 an13 : Option Addr} {sl13 : Array (Option Value)} {oc13 kV13 dc13 pm13 cd13 ct13 : Value}
    {f14 : Addr} {od14 an14 : Option Addr} {sl14 : Array (Option Value)} {oc14 kV14 dc14 pm14 cd14 ct14 : Value}
    {f15 : Addr} {od15 an15 : Option Addr} {sl15 : Array (Option Value)} {oc15 kV15 dc15 pm15 cd15 ct15 : Value}
    {f16 : Addr} {od16 an16 : Option Addr} {sl16 : Array (Option Value)} {oc16 kV16 dc16 pm16 cd16 ct16 : Value}
    {f17 : Addr} {od17 an17 : Option Addr} {sl17 : Array (Option Value)} {oc17 kV17 dc17 pm17 cd17 ct17 : Value}
    {f18 : Addr} {od18 an18 : Option Addr} {sl18 : Array (Option Value)} {oc18 kV18 dc18 pm18 cd18 ct18 : Value}
    {f19 : Addr} {od19 an19 : Option Addr} {sl19 : Array (Option Value)} {oc19 kV19 dc19 pm19 cd19 ct19 : Value}
    {f20 : Addr} {od20 an20 : Option Addr} {sl20 : Array (Option Value)} {oc20 kV20 dc20 pm20 cd20 ct20 : Value}
    {f21 : Addr} {od21 an21 : Option Addr} {sl21 : Array (Option Value)} {oc21 kV21 dc21 pm21 cd21 ct21 : Value}
    {f22 : Addr} {od22 an22 : Option Addr} {sl22 : Array (Option Value)} {oc22 kV22 dc22 pm22 cd22 ct22 : Value}
    {f23 : Addr} {od23 an23 : Option Addr} {sl23 : Array (Option Value)} {oc23 kV23 dc23 pm23 cd23 ct23 : Value}
    {f24 : Addr} {od24 an24 : Option Addr} {sl24 : Array (Option Value)} {oc24 kV24 dc24 pm24 cd24 ct24 : Value}
    (a0 : PySem.W.nsIn K mainGlobals "parts_of" = some (some (.ref f0))) (l0 : K.lookup f0 = some ⟨oc0, od0, .func (PySem.W.fnOf "parts_of" "parts_of" (defArgs (topS 1)) (defBody (topS 1)) (defScope (topS 1)) .none kV0 dc0 pm0 an0 cd0 ct0), sl0⟩) (c0 : PySem.W.codeIn K cd0 "parts_of" = true) (k0 : PySem.W.keepIn K (.ref f0) = true)
    (a1 : PySem.W.nsIn K mainGlobals "has_inner" = some (some (.ref f1))) (l1 : K.lookup f1 = some ⟨oc1, od1, .func (PySem.W.fnOf "has_inner" "has_inner" (defArgs (topS 2)) (defBody (topS 2)) (defScope (topS 2)) .none kV1 dc1 pm1 an1 cd1 ct1), sl1⟩) (c1 : PySem.W.codeIn K cd1 "has_inner" = true) (k1 : PySem.W.keepIn K (.ref f1) = true)
    (a2 : PySem.W.nsIn K mainGlobals "with_inner" = some (some (.ref f2))) (l2 : K.lookup f2 = some ⟨oc2, od2, .func (PySem.W.fnOf "with_inner" "with_inner" (defArgs (topS 3)) (defBody (topS 3)) (defScope (topS 3)) .none kV2 dc2 pm2 an2 cd2 ct2), sl2⟩) (c2 : PySem.W.codeIn K cd2 "with_inner" = true) (k2 : PySem.W.keepIn K (.ref f2) = true)
    (a3 : PySem.W.nsIn K mainGlobals "fill" = some (some (.ref f3))) (l3 : K.lookup f3 = some ⟨oc3, od3, .func (PySem.W.fnOf "fill" "fill" (defArgs (topS 4)) (defBody (topS 4)) (defScope (topS 4)) .none kV3 dc3 pm3 an3 cd3 ct3), sl3⟩) (c3 : PySem.W.codeIn K cd3 "fill" = true) (k3 : PySem.W.keepIn K (.ref f3) = true)
    (a4 : PySem.W.nsIn K mainGlobals "_fill_parts" = some (some (.ref f4))) (l4 : K.lookup f4 = some ⟨oc4, od4, .func (PySem.W.fnOf "_fill_parts" "_fill_parts" (defArgs (topS 5)) (defBody (topS 5)) (defScope (topS 5)) .none kV4 dc4 pm4 an4 cd4 ct4), sl4⟩) (c4 : PySem.W.codeIn K cd4 "_fill_parts" = true) (k4 : PySem.W.keepIn K (.ref f4) = true)
    (a5 : PySem.W.nsIn K mainGlobals "numbered" = some (some (.ref f5))) (l5 : K.lookup f5 = some ⟨oc5, od5, .func (PySem.W.fnOf "numbered" "numbered" (defArgs (topS 6)) (defBody (topS 6)) (defScope (topS 6)) .none kV5 dc5 pm5 an5 cd5 ct5), sl5⟩) (c5 : PySem.W.codeIn K cd5 "numbered" = true) (k5 : PySem.W.keepIn K (.ref f5) = true)
    (a6 : PySem.W.nsIn K mainGlobals "_add_statements" = some (some (.ref f6))) (l6 : K.lookup f6 = some ⟨oc6, od6, .func (PySem.W.fnOf "_add_statements" "_add_statements" (defArgs (topS 7)) (defBody (topS 7)) (defScope (topS 7)) .none kV6 dc6 pm6 an6 cd6 ct6), sl6⟩) (c6 : PySem.W.codeIn K cd6 "_add_statements" = true) (k6 : PySem.W.keepIn K (.ref f6) = true)
    (a7 : PySem.W.nsIn K mainGlobals "behind_table" = some (some (.ref f7))) (l7 : K.lookup f7 = some ⟨oc7, od7, .func (PySem.W.fnOf "behind_table" "behind_table" (defArgs (topS 8)) (defBody (topS 8)) (defScope (topS 8)) .none kV7 dc7 pm7 an7 cd7 ct7), sl7⟩) (c7 : PySem.W.codeIn K cd7 "behind_table" = true) (k7 : PySem.W.keepIn K (.ref f7) = true)
    (a8 : PySem.W.nsIn K mainGlobals "_add_numbers" = some (some (.ref f8))) (l8 : K.lookup f8 = some ⟨oc8, od8, .func (PySem.W.fnOf "_add_numbers" "_add_numbers" (defArgs (topS 9)) (defBody (topS 9)) (defScope (topS 9)) .none kV8 dc8 pm8 an8 cd8 ct8), sl8⟩) (c8 : PySem.W.codeIn K cd8 "_add_numbers" = true) (k8 : PySem.W.keepIn K (.ref f8) = true)
    (a9 : PySem.W.nsIn K mainGlobals "behind" = some (some (.ref f9))) (l9 : K.lookup f9 = some ⟨oc9, od9, .func (PySem.W.fnOf "behind" "behind" (defArgs (topS 10)) (defBody (topS 10)) (defScope (topS 10)) .none kV9 dc9 pm9 an9 cd9 ct9), sl9⟩) (c9 : PySem.W.codeIn K cd9 "behind" = true) (k9 : PySem.W.keepIn K (.ref f9) = true)
    (a10 : PySem.W.nsIn K mainGlobals "depth_of" = some (some (.ref f10))) (l10 : K.lookup f10 = some ⟨oc10, od10, .func (PySem.W.fnOf "depth_of" "depth_of" (defArgs (topS 11)) (defBody (topS 11)) (defScope (topS 11)) .none kV10 dc10 pm10 an10 cd10 ct10), sl10⟩) (c10 : PySem.W.codeIn K cd10 "depth_of" = true) (k10 : PySem.W.keepIn K (.ref f10) = true)
    (a11 : PySem.W.nsIn K mainGlobals "_law_cell" = some (some (.ref f11))) (l11 : K.lookup f11 = some ⟨oc11, od11, .func (PySem.W.fnOf "_law_cell" "_law_cell" (defArgs (topS 13)) (defBody (topS 13)) (defScope (topS 13)) .none kV11 dc11 pm11 an11 cd11 ct11), sl11⟩) (c11 : PySem.W.codeIn K cd11 "_law_cell" = true) (k11 : PySem.W.keepIn K (.ref f11) = true)
    (a12 : PySem.W.nsIn K mainGlobals "_law_draws" = some (some (.ref f12))) (l12 : K.lookup f12 = some ⟨oc12, od12, .func (PySem.W.fnOf "_law_draws" "_law_draws" (defArgs (topS 14)) (defBody (topS 14)) (defScope (topS 14)) .none kV12 dc12 pm12 an12 cd12 ct12), sl12⟩) (c12 : PySem.W.codeIn K cd12 "_law_draws" = true) (k12 : PySem.W.keepIn K (.ref f12) = true)
    (a13 : PySem.W.nsIn K mainGlobals "_law_none" = some (some (.ref f13))) (l13 : K.lookup f13 = some ⟨oc13, od13, .func (PySem.W.fnOf "_law_none" "_law_none" (defArgs (topS 15)) (defBody (topS 15)) (defScope (topS 15)) .none kV13 dc13 pm13 an13 cd13 ct13), sl13⟩) (c13 : PySem.W.codeIn K cd13 "_law_none" = true) (k13 : PySem.W.keepIn K (.ref f13) = true)
    (a14 : PySem.W.nsIn K mainGlobals "_law_lone" = some (some (.ref f14))) (l14 : K.lookup f14 = some ⟨oc14, od14, .func (PySem.W.fnOf "_law_lone" "_law_lone" (defArgs (topS 16)) (defBody (topS 16)) (defScope (topS 16)) .none kV14 dc14 pm14 an14 cd14 ct14), sl14⟩) (c14 : PySem.W.codeIn K cd14 "_law_lone" = true) (k14 : PySem.W.keepIn K (.ref f14) = true)
    (a15 : PySem.W.nsIn K mainGlobals "_law_shifted" = some (some (.ref f15))) (l15 : K.lookup f15 = some ⟨oc15, od15, .func (PySem.W.fnOf "_law_shifted" "_law_shifted" (defArgs (topS 17)) (defBody (topS 17)) (defScope (topS 17)) .none kV15 dc15 pm15 an15 cd15 ct15), sl15⟩) (c15 : PySem.W.codeIn K cd15 "_law_shifted" = true) (k15 : PySem.W.keepIn K (.ref f15) = true)
    (a16 : PySem.W.nsIn K mainGlobals "_law_both" = some (some (.ref f16))) (l16 : K.lookup f16 = some ⟨oc16, od16, .func (PySem.W.fnOf "_law_both" "_law_both" (defArgs (topS 18)) (defBody (topS 18)) (defScope (topS 18)) .none kV16 dc16 pm16 an16 cd16 ct16), sl16⟩) (c16 : PySem.W.codeIn K cd16 "_law_both" = true) (k16 : PySem.W.keepIn K (.ref f16) = true)
    (a17 : PySem.W.nsIn K mainGlobals "_law_if" = some (some (.ref f17))) (l17 : K.lookup f17 = some ⟨oc17, od17, .func (PySem.W.fnOf "_law_if" "_law_if" (defArgs (topS 19)) (defBody (topS 19)) (defScope (topS 19)) .none kV17 dc17 pm17 an17 cd17 ct17), sl17⟩) (c17 : PySem.W.codeIn K cd17 "_law_if" = true) (k17 : PySem.W.keepIn K (.ref f17) = true)
    (a18 : PySem.W.nsIn K mainGlobals "_law_while" = some (some (.ref f18))) (l18 : K.lookup f18 = some ⟨oc18, od18, .func (PySem.W.fnOf "_law_while" "_law_while" (defArgs (topS 20)) (defBody (topS 20)) (defScope (topS 20)) .none kV18 dc18 pm18 an18 cd18 ct18), sl18⟩) (c18 : PySem.W.codeIn K cd18 "_law_while" = true) (k18 : PySem.W.keepIn K (.ref f18) = true)
    (a19 : PySem.W.nsIn K mainGlobals "_law_simple" = some (some (.ref f19))) (l19 : K.lookup f19 = some ⟨oc19, od19, .func (PySem.W.fnOf "_law_simple" "_law_simple" (defArgs (topS 21)) (defBody (topS 21)) (defScope (topS 21)) .none kV19 dc19 pm19 an19 cd19 ct19), sl19⟩) (c19 : PySem.W.codeIn K cd19 "_law_simple" = true) (k19 : PySem.W.keepIn K (.ref f19) = true)
    (a20 : PySem.W.nsIn K mainGlobals "_law_step" = some (some (.ref f20))) (l20 : K.lookup f20 = some ⟨oc20, od20, .func (PySem.W.fnOf "_law_step" "_law_step" (defArgs (topS 22)) (defBody (topS 22)) (defScope (topS 22)) .none kV20 dc20 pm20 an20 cd20 ct20), sl20⟩) (c20 : PySem.W.codeIn K cd20 "_law_step" = true) (k20 : PySem.W.keepIn K (.ref f20) = true)
    (a21 : PySem.W.nsIn K mainGlobals "_law_grown" = some (some (.ref f21))) (l21 : K.lookup f21 = some ⟨oc21, od21, .func (PySem.W.fnOf "_law_grown" "_law_grown" (defArgs (topS 23)) (defBody (topS 23)) (defScope (topS 23)) .none kV21 dc21 pm21 an21 cd21 ct21), sl21⟩) (c21 : PySem.W.codeIn K cd21 "_law_grown" = true) (k21 : PySem.W.keepIn K (.ref f21) = true)
    (a22 : PySem.W.nsIn K mainGlobals "_law_alike" = some (some (.ref f22))) (l22 : K.lookup f22 = some ⟨oc22, od22, .func (PySem.W.fnOf "_law_alike" "_law_alike" (defArgs (topS 24)) (defBody (topS 24)) (defScope (topS 24)) .none kV22 dc22 pm22 an22 cd22 ct22), sl22⟩) (c22 : PySem.W.codeIn K cd22 "_law_alike" = true) (k22 : PySem.W.keepIn K (.ref f22) = true)
    (a23 : PySem.W.nsIn K mainGlobals "_law_told" = some (some (.ref f23))) (l23 : K.lookup f23 = some ⟨oc23, od23, .func (PySem.W.fnOf "_law_told" "_law_told" (defArgs (topS 25)) (defBody (topS 25)) (defScope (topS 25)) .none kV23 dc23 pm23 an23 cd23 ct23), sl23⟩) (c23 : PySem.W.codeIn K cd23 "_law_told" = true) (k23 : PySem.W.keepIn K (.ref f23) = true)
    (a24 : PySem.W.nsIn K mainGlobals "law" = some (some (.ref f24))) (l24 : K.lookup f24 = some ⟨oc24, od24, .func (PySem.W.fnOf "law" "law" (defArgs (topS 26)) (defBody (topS 26)) (defScope (topS 26)) .none kV24 dc24 pm24 an24 cd24 ct24), sl24⟩) (c24 : PySem.W.codeIn K cd24 "law" = true) (k24 : PySem.W.keepIn K (.ref f24) = true)
    (z0 : PySem.W.nsIn K mainGlobals "len" = some none)
    (z1 : PySem.W.nsIn K mainGlobals "int" = some none)
    (z2 : PySem.W.nsIn K mainGlobals "str" = some none)
    (z3 : PySem.W.nsIn K mainGlobals "abs" = some none)
    (z4 : PySem.W.nsIn K mainGlobals "tuple" = some none)
    (z5 : PySem.W.nsIn K mainGlobals "max" = some none)
    (z6 : PySem.W.nsIn K mainGlobals "repr" = some none)
    (z7 : PySem.W.nsIn K mainGlobals "range" = some none) :
    ∃ fd : FuncData, (∀ (s : Shared) (u : Value), BindsTo s fd ⟨[u], []⟩ [("script", u)]) ∧ ∀ base : Heap, K.In base → base.Ns mainGlobals mg → FnG P w K mg base 40 fa fd ["script"] (spF K 1 (fnK rs gl0 40 24)) := by
  have e := hfa.symm.trans (PySem.W.mg_of X G a24)
  have e' : f24 = fa := by cases e; rfl
  subst e' 
  have D0 : DefAt K mg r_parts_of f0 _ := ⟨fun_mk (st := topS 1) l0 c0 k0, PySem.W.mg_of X G a0, k0, (fun_mk (st := topS 1) l0 c0 k0).binds (ps := ["statement"]) fun _ _ _ _ _ _ us hl => match us, hl with | [_], _ => rfl⟩
  have D1 : DefAt K mg r_has_inner f1 _ := ⟨fun_mk (st := topS 2) l1 c1 k1, PySem.W.mg_of X G a1, k1, (fun_mk (st := topS 2) l1 c1 k1).binds (ps := ["block"]) fun _ _ _ _ _ _ us hl => match us, hl with | [_], _ => rfl⟩
  have D2 : DefAt K mg r_with_inner f2 _ := ⟨fun_mk (st := topS 3) l2 c2 k2, PySem.W.mg_of X G a2, k2, (fun_mk (st := topS 3) l2 c2 k2).binds (ps := ["block"]) fun _ _ _ _ _ _ us hl => match us, hl with | [_], _ => rfl⟩
  have D3 : DefAt K mg r_fill f3 _ := ⟨fun_mk (st := topS 4) l3 c3 k3, PySem.W.mg_of X G a3, k3, (fun_mk (st := topS 4) l3 c3 k3).binds (ps := ["block", "other"]) fun _ _ _ _ _ _ us hl => match us, hl with | [_, _], _ => rfl⟩
  have D4 : DefAt K mg r__fill_parts f4 _ := ⟨fun_mk (st := topS 5) l4 c4 k4, PySem.W.mg_of X G a4, k4, (fun_mk (st := topS 5) l4 c4 k4).binds (ps := ["statement", "other"]) fun _ _ _ _ _ _ us hl => match us, hl with | [_, _], _ => rfl⟩
  have D5 : DefAt K mg r_numbered f5 _ := ⟨fun_mk (st := topS 6) l5 c5 k5, PySem.W.mg_of X G a5, k5, (fun_mk (st := topS 6) l5 c5 k5).binds (ps := ["block"]) fun _ _ _ _ _ _ us hl => match us, hl with | [_], _ => rfl⟩
  have D6 : DefAt K mg r__add_statements f6 _ := ⟨fun_mk (st := topS 7) l6 c6 k6, PySem.W.mg_of X G a6, k6, (fun_mk (st := topS 7) l6 c6 k6).binds (ps := ["block", "statements"]) fun _ _ _ _ _ _ us hl => match us, hl with | [_, _], _ => rfl⟩
  have D7 : DefAt K mg r_behind_table f7 _ := ⟨fun_mk (st := topS 8) l7 c7 k7, PySem.W.mg_of X G a7, k7, (fun_mk (st := topS 8) l7 c7 k7).binds (ps := ["block"]) fun _ _ _ _ _ _ us hl => match us, hl with | [_], _ => rfl⟩
  have D8 : DefAt K mg r__add_numbers f8 _ := ⟨fun_mk (st := topS 9) l8 c8 k8, PySem.W.mg_of X G a8, k8, (fun_mk (st := topS 9) l8 c8 k8).binds (ps := ["block", "table"]) fun _ _ _ _ _ _ us hl => match us, hl with | [_, _], _ => rfl⟩
  have D9 : DefAt K mg r_behind f9 _ := ⟨fun_mk (st := topS 10) l9 c9 k9, PySem.W.mg_of X G a9, k9, (fun_mk (st := topS 10) l9 c9 k9).binds (ps := ["block", "number"]) fun _ _ _ _ _ _ us hl => match us, hl with | [_, _], _ => rfl⟩
  have D10 : DefAt K mg r_depth_of f10 _ := ⟨fun_mk (st := topS 11) l10 c10 k10, PySem.W.mg_of X G a10, k10, (fun_mk (st := topS 11) l10 c10 k10).binds (ps := ["block"]) fun _ _ _ _ _ _ us hl => match us, hl with | [_], _ => rfl⟩
  have D11 : DefAt K mg r__law_cell f11 _ := ⟨fun_mk (st := topS 13) l11 c11 k11, PySem.W.mg_of X G a11, k11, (fun_mk (st := topS 13) l11 c11 k11).binds (ps := ["script", "k"]) fun _ _ _ _ _ _ us hl => match us, hl with | [_, _], _ => rfl⟩
  have D12 : DefAt K mg r__law_draws f12 _ := ⟨fun_mk (st := topS 14) l12 c12 k12, PySem.W.mg_of X G a12, k12, (fun_mk (st := topS 14) l12 c12 k12).binds (ps := ["cell", "many"]) fun _ _ _ _ _ _ us hl => match us, hl with | [_, _], _ => rfl⟩
  have D13 : DefAt K mg r__law_none f13 _ := ⟨fun_mk (st := topS 15) l13 c13 k13, PySem.W.mg_of X G a13, k13, (fun_mk (st := topS 15) l13 c13 k13).binds (ps := []) fun _ _ _ _ _ _ us hl => match us, hl with | [], _ => rfl⟩
  have D14 : DefAt K mg r__law_lone f14 _ := ⟨fun_mk (st := topS 16) l14 c14 k14, PySem.W.mg_of X G a14, k14, (fun_mk (st := topS 16) l14 c14 k14).binds (ps := ["statement"]) fun _ _ _ _ _ _ us hl => match us, hl with | [_], _ => rfl⟩
  have D15 : DefAt K mg r__law_shifted f15 _ := ⟨fun_mk (st := topS 17) l15 c15 k15, PySem.W.mg_of X G a15, k15, (fun_mk (st := topS 17) l15 c15 k15).binds (ps := ["table", "much", "last"]) fun _ _ _ _ _ _ us hl => match us, hl with | [_, _, _], _ => rfl⟩
  have D16 : DefAt K mg r__law_both f16 _ := ⟨fun_mk (st := topS 18) l16 c16 k16, PySem.W.mg_of X G a16, k16, (fun_mk (st := topS 18) l16 c16 k16).binds (ps := ["one", "two"]) fun _ _ _ _ _ _ us hl => match us, hl with | [_, _], _ => rfl⟩
  have D17 : DefAt K mg r__law_if f17 _ := ⟨fun_mk (st := topS 19) l17 c17 k17, PySem.W.mg_of X G a17, k17, (fun_mk (st := topS 19) l17 c17 k17).binds (ps := ["test", "one", "two"]) fun _ _ _ _ _ _ us hl => match us, hl with | [_, _, _], _ => rfl⟩
  have D18 : DefAt K mg r__law_while f18 _ := ⟨fun_mk (st := topS 20) l18 c18 k18, PySem.W.mg_of X G a18, k18, (fun_mk (st := topS 20) l18 c18 k18).binds (ps := ["test", "one"]) fun _ _ _ _ _ _ us hl => match us, hl with | [_, _], _ => rfl⟩
  have D19 : DefAt K mg r__law_simple f19 _ := ⟨fun_mk (st := topS 21) l19 c19 k19, PySem.W.mg_of X G a19, k19, (fun_mk (st := topS 21) l19 c19 k19).binds (ps := ["draw", "k"]) fun _ _ _ _ _ _ us hl => match us, hl with | [_, _], _ => rfl⟩
  have D20 : DefAt K mg r__law_step f20 _ := ⟨fun_mk (st := topS 22) l20 c20 k20, PySem.W.mg_of X G a20, k20, (fun_mk (st := topS 22) l20 c20 k20).binds (ps := ["heap", "kind", "test", "lone", "deepest"]) fun _ _ _ _ _ _ us hl => match us, hl with | [_, _, _, _, _], _ => rfl⟩
  have D21 : DefAt K mg r__law_grown f21 _ := ⟨fun_mk (st := topS 23) l21 c21 k21, PySem.W.mg_of X G a21, k21, (fun_mk (st := topS 23) l21 c21 k21).binds (ps := ["cell", "deepest", "number", "other"]) fun _ _ _ _ _ _ us hl => match us, hl with | [_, _, _, _], _ => rfl⟩
  have D22 : DefAt K mg r__law_alike f22 _ := ⟨fun_mk (st := topS 24) l22 c22 k22, PySem.W.mg_of X G a22, k22, (fun_mk (st := topS 24) l22 c22 k22).binds (ps := ["actual", "due"]) fun _ _ _ _ _ _ us hl => match us, hl with | [_, _], _ => rfl⟩
  have D23 : DefAt K mg r__law_told f23 _ := ⟨fun_mk (st := topS 25) l23 c23 k23, PySem.W.mg_of X G a23, k23, (fun_mk (st := topS 25) l23 c23 k23).binds (ps := ["piece"]) fun _ _ _ _ _ _ us hl => match us, hl with | [_], _ => rfl⟩
  have D24 : DefAt K mg r_law f24 _ := ⟨fun_mk (st := topS 26) l24 c24 k24, PySem.W.mg_of X G a24, k24, (fun_mk (st := topS 26) l24 c24 k24).binds (ps := ["script"]) fun _ _ _ _ _ _ us hl => match us, hl with | [_], _ => rfl⟩
  have hs : ∀ (f : Nat) (r : DefR), rs[f]? = some r → DefOk rs gls blt r ∧ ∃ fa fd, DefAt K mg r fa fd := by
    intro f r e
    match f, e with
    | 0, e => cases e; exact ⟨ok_parts_of, _, _, D0⟩
    | 1, e => cases e; exact ⟨ok_has_inner, _, _, D1⟩
    | 2, e => cases e; exact ⟨ok_with_inner, _, _, D2⟩
    | 3, e => cases e; exact ⟨ok_fill, _, _, D3⟩
    | 4, e => cases e; exact ⟨ok__fill_parts, _, _, D4⟩
    | 5, e => cases e; exact ⟨ok_numbered, _, _, D5⟩
    | 6, e => cases e; exact ⟨ok__add_statements, _, _, D6⟩
    | 7, e => cases e; exact ⟨ok_behind_table, _, _, D7⟩
    | 8, e => cases e; exact ⟨ok__add_numbers, _, _, D8⟩
    | 9, e => cases e; exact ⟨ok_behind, _, _, D9⟩
    | 10, e => cases e; exact ⟨ok_depth_of, _, _, D10⟩
    | 11, e => cases e; exact ⟨ok__law_cell, _, _, D11⟩
    | 12, e => cases e; exact ⟨ok__law_draws, _, _, D12⟩
    | 13, e => cases e; exact ⟨ok__law_none, _, _, D13⟩
    | 14, e => cases e; exact ⟨ok__law_lone, _, _, D14⟩
    | 15, e => cases e; exact ⟨ok__law_shifted, _, _, D15⟩
    | 16, e => cases e; exact ⟨ok__law_both, _, _, D16⟩
    | 17, e => cases e; exact ⟨ok__law_if, _, _, D17⟩
    | 18, e => cases e; exact ⟨ok__law_while, _, _, D18⟩
    | 19, e => cases e; exact ⟨ok__law_simple, _, _, D19⟩
    | 20, e => cases e; exact ⟨ok__law_step, _, _, D20⟩
    | 21, e => cases e; exact ⟨ok__law_grown, _, _, D21⟩
    | 22, e => cases e; exact ⟨ok__law_alike, _, _, D22⟩
    | 23, e => cases e; exact ⟨ok__law_told, _, _, D23⟩
    | 24, e => cases e; exact ⟨ok_law, _, _, D24⟩
    | f + 25, e => cases e
  have hb : ∀ x ∈ blt, mg x = none := by
    intro x hx
    unfold blt at hx
    simp only [List.mem_cons, List.not_mem_nil, or_false] at hx
    rcases hx with rfl | rfl | rfl | rfl | rfl | rfl | rfl | rfl
    · exact PySem.W.mg_none_of X G z0
    · exact PySem.W.mg_none_of X G z1
    · exact PySem.W.mg_none_of X G z2
    · exact PySem.W.mg_none_of X G z3
    · exact PySem.W.mg_none_of X G z4
    · exact PySem.W.mg_none_of X G z5
    · exact PySem.W.mg_none_of X G z6
    · exact PySem.W.mg_none_of X G z7
  have hg : ∀ x g, (x, g) ∈ gls → ∃ v u d, mg x = some u ∧ RelV v u ∧ gl0 g = some d ∧ ∀ F, Rp K F v d := fun x g z => by cases z
  refine ⟨_, fun s v => ?_, fun base _ _ => defs_ok (P := P) (w := w) (base := base) hs hb hg 40 24 r_law rfl _ _ D24⟩
  exact .of_eq rfl
end
end Lw

open PySem PySem.W PyProof.Rows in
set_option maxRecDepth 100000 in
set_option maxHeartbeats 0 in
theorem PySem.Challenge.cw_livesalike_k04_blocks_put_together_holds : PySem.Challenge.rw_livesalike_k04_blocks_put_together.Holds := by
  w_on; o_law; k_head; (case hw => w_witness2)
  k_fill
  refine Dv.walk_G (l := PySem.Challenge.rw_livesalike_k04_blocks_put_together) (k := 40) (x := "script") (sp := fun K => Dv.spF K 1 (Dv.fnK Lw.rs Lw.gl0 40 24)) rfl rfl ⟨rfl, by decide, by decide⟩ (fun w h Y => PySem.W.kIn_of Y) ?F Lw.win
  case F =>
    intro w mg fa h KX G hmg
    refine' Lw.all_mk KX G hmg ?a0 ?l0 ?c0 ?k0 ?a1 ?l1 ?c1 ?k1 ?a2 ?l2 ?c2 ?k2 ?a3 ?l3 ?c3 ?k3 ?a4 ?l4 ?c4 ?k4 ?a5 ?l5 ?c5 ?k5 ?a6 ?l6 ?c6 ?k6 ?a7 ?l7 ?c7 ?k7 ?a8 ?l8 ?c8 ?k8 ?a9 ?l9 ?c9 ?k9 ?a10 ?l10 ?c10 ?k10 ?a11 ?l11 ?c11 ?k11 ?a12 ?l12 ?c12 ?k12 ?a13 ?l13 ?c13 ?k13 ?a14 ?l14 ?c14 ?k14 ?a15 ?l15 ?c15 ?k15 ?a16 ?l16 ?c16 ?k16 ?a17 ?l17 ?c17 ?k17 ?a18 ?l18 ?c18 ?k18 ?a19 ?l19 ?c19 ?k19 ?a20 ?l20 ?c20 ?k20 ?a21 ?l21 ?c21 ?k21 ?a22 ?l22 ?c22 ?k22 ?a23 ?l23 ?c23 ?k23 ?a24 ?l24 ?c24 ?k24 ?z0 ?z1 ?z2 ?z3 ?z4 ?z5 ?z6 ?z7
    (case a0 => k_is)
    (case l0 => k_is)
    (case c0 => k_is)
    (case k0 => k_is)
    (case a1 => k_is)
    (case l1 => k_is)
    (case c1 => k_is)
    (case k1 => k_is)
    (case a2 => k_is)
    (case l2 => k_is)
    (case c2 => k_is)
    (case k2 => k_is)
    (case a3 => k_is)
    (case l3 => k_is)
    (case c3 => k_is)
    (case k3 => k_is)
    (case a4 => k_is)
    (case l4 => k_is)
    (case c4 => k_is)
    (case k4 => k_is)
    (case a5 => k_is)
    (case l5 => k_is)
    (case c5 => k_is)
    (case k5 => k_is)
    (case a6 => k_is)
    (case l6 => k_is)
    (case c6 => k_is)
    (case k6 => k_is)
    (case a7 => k_is)
    (case l7 => k_is)
    (case c7 => k_is)
    (case k7 => k_is)
    (case a8 => k_is)
    (case l8 => k_is)
    (case c8 => k_is)
    (case k8 => k_is)
    (case a9 => k_is)
    (case l9 => k_is)
    (case c9 => k_is)
    (case k9 => k_is)
    (case a10 => k_is)
    (case l10 => k_is)
    (case c10 => k_is)
    (case k10 => k_is)
    (case a11 => k_is)
    (case l11 => k_is)
    (case c11 => k_is)
    (case k11 => k_is)
    (case a12 => k_is)
    (case l12 => k_is)
    (case c12 => k_is)
    (case k12 => k_is)
    (case a13 => k_is)
    (case l13 => k_is)
    (case c13 => k_is)
    (case k13 => k_is)
    (case a14 => k_is)
    (case l14 => k_is)
    (case c14 => k_is)
    (case k14 => k_is)
    (case a15 => k_is)
    (case l15 => k_is)
    (case c15 => k_is)
    (case k15 => k_is)
    (case a16 => k_is)
    (case l16 => k_is)
    (case c16 => k_is)
    (case k16 => k_is)
    (case a17 => k_is)
    (case l17 => k_is)
    (case c17 => k_is)
    (case k17 => k_is)
    (case a18 => k_is)
    (case l18 => k_is)
    (case c18 => k_is)
    (case k18 => k_is)
    (case a19 => k_is)
    (case l19 => k_is)
    (case c19 => k_is)
    (case k19 => k_is)
    (case a20 => k_is)
    (case l20 => k_is)
    (case c20 => k_is)
    (case k20 => k_is)
    (case a21 => k_is)
    (case l21 => k_is)
    (case c21 => k_is)
    (case k21 => k_is)
    (case a22 => k_is)
    (case l22 => k_is)
    (case c22 => k_is)
    (case k22 => k_is)
    (case a23 => k_is)
    (case l23 => k_is)
    (case c23 => k_is)
    (case k23 => k_is)
    (case a24 => k_is)
    (case l24 => k_is)
    (case c24 => k_is)
    (case k24 => k_is)
    (case z0 => k_is)
    (case z1 => k_is)
    (case z2 => k_is)
    (case z3 => k_is)
    (case z4 => k_is)
    (case z5 => k_is)
    (case z6 => k_is)
    (case z7 => k_is)

