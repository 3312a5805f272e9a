import PyProof.Rows.All
import Wide.All
import OpenK.AllK
import Wide.FinOn
import HandS.ForMost
import HandS.TupAny
import HandS.TupMul
import HandS.Style
import HandS.NoneIn
import HandS.IsInst
import HandS.RaiseMore
import HandS.Codes
import HandS.StrMore
import HandS.Ends
import HandS.Defaults
import PySem.Challenge.RW_livesalike_k01_tokens_up_to_the_end
set_option Elab.async false
set_option linter.all false
set_option maxRecDepth 100000
set_option maxHeartbeats 4000000
/-! the data layer: values as plain data over the hand layer; owned lists -/
namespace Dv
open PySem PySem.Spec PyProof.Rows L2

abbrev PD := PyData
inductive Slo where
  | un | val (d : PD) | own (p : Option Nat) (ds : List PD)
abbrev DEn := List Slo

/-- a list as it is held, or an exact one of the written part -/
def LsR (K : PySem.W.Frag) (F : Hp) (a : Addr) (xs : List V) : Prop := Rd F a (.lst xs) ∨ ∃ (its : List Value) (n : Nat), K.lookup a = some { cls := .type "list", data := .seq its.toArray n } ∧ xs.length ≤ sizeLine ∧ Vals xs its
theorem LsR.of {K : PySem.W.Frag} {F : Hp} {a : Addr} {xs : List V} (h : F a = some (.lst xs)) : LsR K F a xs := .inl (.inl h)
theorem LsR.sq {K : PySem.W.Frag} {F : Hp} {a : Addr} {xs : List V} (h : LsR K F a xs) : SqL K F a xs := h.imp id fun ⟨its, n, e, z, r⟩ => ⟨_, its.toArray, n, e, rfl, rfl, rfl, by rw [List.size_toArray, ← r.length]; exact z, r⟩
theorem LsR.exact {X : Cx} {pins : List (Addr × Obj)} {σ : L2.St} {H : Hp} {s : Shared} {a : Addr} {xs : List V} (h : LsR X.K H a xs) (I : Inv X pins σ H s) : xs.length ≤ sizeLine ∧ ∃ (its : List Value) (n : Nat), Vals xs its ∧ s.heap.get? a = some { cls := .type "list", data := .seq its.toArray n } := by
  rcases h with h | ⟨its, n, e, z, r⟩
  · obtain ⟨z, its, n, r, e⟩ := h.ok I.hok
    exact ⟨z, its, n, r, e⟩
  · exact ⟨z, its, n, r, I.kIn a _ e⟩
mutual
/-- a value as data: lists as they are held, tuples held or written -/
inductive Rp (K : PySem.W.Frag) (F : Hp) : V → PD → Prop
  | non : Rp K F .non .none
  | bl (b : Bool) : Rp K F (.bl b) (.bool b)
  | int (i : Int) : Rp K F (.int i) (.int i)
  | str (x : Str) : Rp K F (.str x) (.str x)
  | lst {a : Addr} {xs : List V} {ds : List PD} : LsR K F a xs → RpAll K F xs ds → Rp K F (.ref a) (.list ds)
  | tup {a : Addr} {xs : List V} {ds : List PD} : SqT K F a xs → RpAll K F xs ds → Rp K F (.ref a) (.tuple ds)
inductive RpAll (K : PySem.W.Frag) (F : Hp) : List V → List PD → Prop
  | nil : RpAll K F [] []
  | cons {v : V} {vs : List V} {d : PD} {ds : List PD} : Rp K F v d → RpAll K F vs ds → RpAll K F (v :: vs) (d :: ds)
end
section
variable {K : PySem.W.Frag}
theorem rd_mono {F F' : Hp} (h : Same F F') {a : Addr} {u : HO} (q : Rd F a u) : Rd F' a u := q.elim (fun q => .inl (h _ _ q)) fun ⟨o, q⟩ => .inr ⟨o, h _ _ q⟩
theorem ls_mono {F F' : Hp} (h : Same F F') {a : Addr} {xs : List V} (q : LsR K F a xs) : LsR K F' a xs := q.imp (rd_mono h) id
theorem sqt_mono {F F' : Hp} (h : Same F F') {a : Addr} {xs : List V} (q : SqT K F a xs) : SqT K F' a xs := by
  rcases q with (q | ⟨o, q⟩) | q
  · exact .inl (.inl (h _ _ q))
  · exact .inl (.inr ⟨o, h _ _ q⟩)
  · exact .inr q
mutual
theorem rp_mono {F F' : Hp} (h : Same F F') : ∀ (d : PD) (v : V), Rp K F v d → Rp K F' v d
  | .none, _, q => by cases q; exact .non
  | .bool b, _, q => by cases q; exact .bl b
  | .int i, _, q => by cases q; exact .int i
  | .str x, _, q => by cases q; exact .str x
  | .list ds, _, q => by
    cases q with
    | lst hs ha => exact .lst (ls_mono h hs) (rpAll_mono h ds _ ha)
  | .tuple ds, _, q => by
    cases q with
    | tup hs ha => exact .tup (sqt_mono h hs) (rpAll_mono h ds _ ha)
  | .dict _, _, q => by cases q
theorem rpAll_mono {F F' : Hp} (h : Same F F') : ∀ (ds : List PD) (vs : List V), RpAll K F vs ds → RpAll K F' vs ds
  | [], _, q => by cases q; exact .nil
  | d :: ds, _, q => by
    cases q with
    | cons h1 h2 => exact .cons (rp_mono h d _ h1) (rpAll_mono h ds _ h2)
end
theorem rpAll_len {F : Hp} : ∀ {vs : List V} {ds : List PD}, RpAll K F vs ds → vs.length = ds.length
  | _, _, .nil => rfl
  | _, _, .cons _ t => by rw [List.length_cons, List.length_cons, rpAll_len t]
theorem rpAll_get {F : Hp} : ∀ {vs : List V} {ds : List PD} {i : Nat} {d : PD}, RpAll K F vs ds → ds[i]? = some d → ∃ v, vs[i]? = some v ∧ Rp K F v d
  | _, _, _, _, .nil, e => by simp at e
  | _, _, 0, _, .cons q _, e => by simp at e; subst e; exact ⟨_, rfl, q⟩
  | _, _, i + 1, _, .cons _ t, e => by
    obtain ⟨v, h1, h2⟩ := rpAll_get (i := i) t (by simpa using e)
    exact ⟨v, by simpa using h1, h2⟩
theorem rpAll_get' {F : Hp} : ∀ {vs : List V} {ds : List PD} {i : Nat} {v : V}, RpAll K F vs ds → vs[i]? = some v → ∃ d, ds[i]? = some d ∧ Rp K F v d
  | _, _, _, _, .nil, e => by simp at e
  | _, _, 0, _, .cons q _, e => by simp at e; subst e; exact ⟨_, rfl, q⟩
  | _, _, i + 1, _, .cons _ t, e => by
    obtain ⟨v, h1, h2⟩ := rpAll_get' (i := i) t (by simpa using e)
    exact ⟨v, by simpa using h1, h2⟩
theorem rpAll_app {F : Hp} : ∀ {vs us : List V} {ds es : List PD}, RpAll K F vs ds → RpAll K F us es → RpAll K F (vs ++ us) (ds ++ es)
  | _, _, _, _, .nil, s => s
  | _, _, _, _, .cons q t, s => .cons q (rpAll_app t s)
theorem rpAll_take {F : Hp} : ∀ {vs : List V} {ds : List PD} (n : Nat), RpAll K F vs ds → RpAll K F (vs.take n) (ds.take n)
  | _, _, 0, _ => .nil
  | _, _, _ + 1, .nil => .nil
  | _, _, n + 1, .cons q t => .cons q (rpAll_take n t)
theorem rpAll_drop {F : Hp} : ∀ {vs : List V} {ds : List PD} (n : Nat), RpAll K F vs ds → RpAll K F (vs.drop n) (ds.drop n)
  | _, _, 0, q => q
  | _, _, _ + 1, .nil => .nil
  | _, _, n + 1, .cons _ t => rpAll_drop n t
theorem rpAll_set {F : Hp} {v : V} {d : PD} (q : Rp K F v d) : ∀ {vs : List V} {ds : List PD} (n : Nat), RpAll K F vs ds → RpAll K F (vs.set n v) (ds.set n d)
  | _, _, _, .nil => .nil
  | _, _, 0, .cons _ t => .cons q t
  | _, _, n + 1, .cons r t => .cons r (rpAll_set q n t)
theorem rpAll_dropLast {F : Hp} {vs : List V} {ds : List PD} (h : RpAll K F vs ds) : RpAll K F vs.dropLast ds.dropLast := by
  rw [List.dropLast_eq_take, List.dropLast_eq_take, rpAll_len h]
  exact rpAll_take _ h
theorem rpAll_rep {F : Hp} {vs : List V} {ds : List PD} (h : RpAll K F vs ds) : ∀ k : Nat, RpAll K F (List.replicate k vs).flatten (List.replicate k ds).flatten
  | 0 => .nil
  | k + 1 => by
    rw [List.replicate_succ, List.flatten_cons, List.replicate_succ, List.flatten_cons]
    exact rpAll_app h (rpAll_rep h k)
theorem rpAll_rev {F : Hp} {vs : List V} {ds : List PD} (h : RpAll K F vs ds) : RpAll K F vs.reverse ds.reverse := by
  induction vs generalizing ds with
  | nil => cases h; exact .nil
  | cons v vs ih =>
    cases h with
    | cons q t =>
      rw [List.reverse_cons, List.reverse_cons]
      exact rpAll_app (ih t) (.cons q .nil)
theorem rpAll_ints {F : Hp} : ∀ ns : List Int, RpAll K F (ns.map V.int) (ns.map PyData.int)
  | [] => .nil
  | n :: ns => .cons (.int n) (rpAll_ints ns)
theorem ints_of_dp {F : Hp} : ∀ {ns : List Int} {vs : List V}, RpAll K F vs (ns.map PyData.int) → vs = ns.map V.int
  | [], _, h => by cases h; rfl
  | n :: ns, _, h => by
    cases h with
    | cons q t =>
      cases q
      rw [List.map_cons, ints_of_dp t]

mutual
theorem rp_dp {F : Hp} : ∀ (d : PD) (v : V), Rp K F v d → Dp K F v d
  | .none, _, q => by cases q; exact .non
  | .bool b, _, q => by cases q; exact .bl b
  | .int i, _, q => by cases q; exact .int i
  | .str x, _, q => by cases q; exact .str x
  | .list ds, _, q => by
    cases q with
    | lst hs ha => exact .lst hs.sq (rpAll_dp ds _ ha)
  | .tuple ds, _, q => by
    cases q with
    | tup hs ha => exact .tup hs (rpAll_dp ds _ ha)
  | .dict _, _, q => by cases q
theorem rpAll_dp {F : Hp} : ∀ (ds : List PD) (vs : List V), RpAll K F vs ds → DpAll K F vs ds
  | [], _, q => by cases q; exact .nil
  | d :: ds, _, q => by
    cases q with
    | cons h1 h2 => exact .cons (rp_dp d _ h1) (rpAll_dp ds _ h2)
end

/-! ### results, environments -/
def RepS (K : PySem.W.Frag) (F H : Hp) (v : V) : Slo → Prop
  | .un => False
  | .val d => Rp K F v d
  | .own _ ds => ∃ a xs, v = .ref a ∧ H a = some (.lst xs) ∧ F a = none ∧ RpAll K F xs ds
def OwnA (ρ : DEn) (σ : L2.St) (b : Addr) : Prop := ∃ (i : Nat) (p : Option Nat) (ds : List PD), ρ[i]? = some (Slo.own p ds) ∧ σ[i]? = some (some (V.ref b))
def OwnV (r : Slo) (v : V) (b : Addr) : Prop := ∃ p ds, r = .own p ds ∧ v = .ref b
theorem ownV_val {d : PD} {v : V} {b : Addr} : ¬ OwnV (.val d) v b := fun ⟨_, _, e, _⟩ => nomatch e

structure ER (K : PySem.W.Frag) (α : Nat → Addr) (F H : Hp) (ρ : DEn) (σ : L2.St) : Prop where
  sub : Same F H
  len : ρ.length = σ.length
  val : ∀ (i : Nat) (d : PD), ρ[i]? = some (Slo.val d) → ∃ v, σ[i]? = some (some v) ∧ Rp K F v d
  own : ∀ (i : Nat) (p : Option Nat) (ds : List PD), ρ[i]? = some (Slo.own p ds) → ∃ (a : Addr) (xs : List V), σ[i]? = some (some (V.ref a)) ∧ H a = some (.lst xs) ∧ F a = none ∧ RpAll K F xs ds ∧ ∀ j, p = some j → a = α j
  inj : ∀ (i j : Nat) (p q : Option Nat) (ds es : List PD), i ≠ j → ρ[i]? = some (Slo.own p ds) → ρ[j]? = some (Slo.own q es) → σ[i]? ≠ σ[j]?

structure Stp (O O' : Addr → Prop) (F H F' H' : Hp) : Prop where
  ff : Same F F'
  keep : ∀ b o, H b = some o → ¬ O b → H' b = some o
  nof : ∀ b o, H b = some o → ¬ O b → F b = none → F' b = none
  oo : ∀ b, O' b → O b ∨ H b = none
  there : ∀ b o, H b = some o → ∃ o', H' b = some o'
theorem Stp.trans {O O1 O2 : Addr → Prop} {F H F1 H1 F2 H2 : Hp} (a : Stp O O1 F H F1 H1) (b : Stp O1 O2 F1 H1 F2 H2) : Stp O O2 F H F2 H2 where
  ff := a.ff.trans b.ff
  keep := fun c o e n => b.keep c o (a.keep c o e n) fun z => (a.oo c z).elim n fun q => by rw [e] at q; cases q
  nof := fun c o e n f => b.nof c o (a.keep c o e n) (fun z => (a.oo c z).elim n fun q => by rw [e] at q; cases q) (a.nof c o e n f)
  oo := fun c z => (b.oo c z).elim (a.oo c) fun q => .inr (by
    cases e : H c with
    | none => rfl
    | some o =>
      obtain ⟨o', e'⟩ := a.there c o e
      rw [q] at e'; cases e')
  there := fun c o e => by
    obtain ⟨o1, e1⟩ := a.there c o e
    exact b.there c o1 e1
theorem Stp.refl {O : Addr → Prop} {F H : Hp} : Stp O O F H F H :=
  ⟨Same.refl _, fun _ _ e _ => e, fun _ _ _ _ f => f, fun _ z => .inl z, fun _ o e => ⟨o, e⟩⟩
theorem Stp.mono {O O1 O' O1' : Addr → Prop} {F H F' H' : Hp} (a : Stp O O' F H F' H') (h : ∀ b, O b → O1 b) (h' : ∀ b, O1' b → O' b) : Stp O1 O1' F H F' H' :=
  ⟨a.ff, fun b o e n => a.keep b o e fun z => n (h b z), fun b o e n => a.nof b o e fun z => n (h b z), fun b z => (a.oo b (h' b z)).imp (h b) id, a.there⟩

theorem RepS.step {O O' : Addr → Prop} {F H F' H' : Hp} {v : V} {r : Slo} (h : RepS K F H v r) (n : ∀ b, OwnV r v b → ¬ O b) (s : Stp O O' F H F' H') : RepS K F' H' v r := by
  cases r with
  | un => exact h
  | val d => exact rp_mono s.ff d v h
  | own p ds =>
    obtain ⟨a, xs, e, e1, e2, q⟩ := h
    have na := n a ⟨p, ds, rfl, e⟩
    exact ⟨a, xs, e, s.keep a _ e1 na, s.nof a _ e1 na e2, rpAll_mono s.ff ds xs q⟩
theorem ER.grow {α : Nat → Addr} {F H F' H' : Hp} {ρ : DEn} {σ : L2.St} {O O' : Addr → Prop} (E : ER K α F H ρ σ) (s : Stp O O' F H F' H') (n : ∀ b, OwnA ρ σ b → ¬ O b) (sub : Same F' H') : ER K α F' H' ρ σ where
  sub := sub
  len := E.len
  val := fun i d e => by
    obtain ⟨v, h1, h2⟩ := E.val i d e
    exact ⟨v, h1, rp_mono s.ff d v h2⟩
  own := fun i p ds e => by
    obtain ⟨a, xs, h1, h2, h3, h4, h5⟩ := E.own i p ds e
    have na := n a ⟨i, p, ds, e, h1⟩
    exact ⟨a, xs, h1, s.keep a _ h2 na, s.nof a _ h2 na h3, rpAll_mono s.ff ds xs h4, h5⟩
  inj := E.inj

/-- behind an evaluation -/
structure Aft (K : PySem.W.Frag) (α : Nat → Addr) (O : Addr → Prop) (F H : Hp) (σ : L2.St) (ρ' : DEn) (r : Slo) (v : V) (F' H' : Hp) : Prop where
  er : ER K α F' H' ρ' σ
  rep : RepS K F' H' v r
  dist : ∀ b, OwnV r v b → ¬ OwnA ρ' σ b
  st : Stp O (fun b => OwnA ρ' σ b ∨ OwnV r v b) F H F' H'

/-- a value made, nothing else changed -/
structure Made (K : PySem.W.Frag) (F H : Hp) (r : Slo) (z : V) (F' H' : Hp) : Prop where
  sub : Same F' H'
  st : Stp (fun _ => False) (OwnV r z) F H F' H'
  rep : RepS K F' H' z r
theorem made_same {F H : Hp} {z : V} {d : PD} (s : Same F H) (q : Rp K F z d) : Made K F H (.val d) z F H :=
  ⟨s, ⟨Same.refl _, fun _ _ e _ => e, fun _ _ _ _ f => f, fun b z => absurd z ownV_val, fun _ o e => ⟨o, e⟩⟩, q⟩
theorem same_upd {H : Hp} {p : Addr} {o : HO} (h : H p = none) : Same H (upd H p o) := fun b x e => by
  rw [upd_ne (ne_of_none e h)]; exact e
theorem free_of {F H : Hp} (s : Same F H) {p : Addr} (h : H p = none) : F p = none := s.free h
theorem made_tup {F H : Hp} {p : Addr} {xs : List V} {ds : List PD} (s : Same F H) (hp : H p = none) (q : RpAll K F xs ds) : Made K F H (.val (.tuple ds)) (.ref p) (upd F p (.tup xs)) (upd H p (.tup xs)) := by
  have hf := free_of s hp
  refine ⟨fun b o e => ?_, ⟨same_upd hf, fun b o e _ => same_upd hp b o e, fun b o e _ f => ?_, fun b z => absurd z ownV_val, fun b o e => ⟨o, same_upd hp b o e⟩⟩, ?_⟩
  · by_cases c : b = p
    · subst c; rw [upd_same] at e ⊢; exact e
    · rw [upd_ne c] at e ⊢; exact s b o e
  · rw [upd_ne (ne_of_none e hp)]; exact f
  · exact .tup (.of upd_same) (rpAll_mono (same_upd hf) _ _ q)
theorem made_lst {F H : Hp} {p : Addr} {xs : List V} {ds : List PD} (s : Same F H) (hp : H p = none) (q : RpAll K F xs ds) : Made K F H (.own none ds) (.ref p) F (upd H p (.lst xs)) := by
  have hf := free_of s hp
  refine ⟨s.trans (same_upd hp), ⟨Same.refl _, fun b o e _ => same_upd hp b o e, fun b o e _ f => f, fun b z => ?_, fun b o e => ⟨o, same_upd hp b o e⟩⟩, ⟨p, xs, rfl, upd_same, hf, q⟩⟩
  obtain ⟨_, _, _, e⟩ := z
  injection e with e
  subst e
  exact .inr hp
theorem Aft.of_made {α : Nat → Addr} {F H F' H' : Hp} {ρ : DEn} {σ : L2.St} {r : Slo} {z : V} (E : ER K α F H ρ σ) (m : Made K F H r z F' H') : Aft K α (OwnA ρ σ) F H σ ρ r z F' H' := by
  have E' := E.grow m.st (fun _ _ z => z) m.sub
  refine ⟨E', m.rep, fun b z ⟨i, p, ds, e1, e2⟩ => ?_, m.st.ff, fun b o e _ => m.st.keep b o e fun z => z, fun b o e _ f => m.st.nof b o e (fun z => z) f, fun b z => z.imp id fun z => (m.st.oo b z).elim False.elim id, m.st.there⟩
  have h := (m.st.oo b z).elim False.elim id
  obtain ⟨a, xs, h1, h2, _⟩ := E.own i p ds e1
  rw [e2] at h1
  cases h1
  rw [h] at h2; cases h2
/-- two steps in a row -/
theorem Aft.after {α : Nat → Addr} {O : Addr → Prop} {F H F1 H1 F2 H2 : Hp} {σ : L2.St} {ρ1 ρ2 : DEn} {r : Slo} {v : V} (s : Stp O (OwnA ρ1 σ) F H F1 H1) (b : Aft K α (OwnA ρ1 σ) F1 H1 σ ρ2 r v F2 H2) : Aft K α O F H σ ρ2 r v F2 H2 :=
  ⟨b.er, b.rep, b.dist, s.trans b.st⟩

/-- a fresh list is frozen -/
def frz : Slo → Option PD
  | .un => none
  | .val d => some d
  | .own _ ds => some (.list ds)
theorem frz_aft {α : Nat → Addr} {O : Addr → Prop} {F H F' H' : Hp} {σ : L2.St} {ρ' : DEn} {r : Slo} {v : V} {d : PD} (A : Aft K α O F H σ ρ' r v F' H') (e : frz r = some d) :
    ∃ F'', Aft K α O F H σ ρ' (.val d) v F'' H' := by
  cases r with
  | un => cases e
  | val d' =>
    cases e
    exact ⟨F', A⟩
  | own p ds =>
    cases e
    obtain ⟨a, xs, rfl, e1, e2, q⟩ := A.rep
    have dist := A.dist a ⟨p, ds, rfl, rfl⟩
    have sub : Same (upd F' a (.lst xs)) H' := fun b o e => by
      by_cases c : b = a
      · subst c; rw [upd_same] at e; rw [← e]; exact e1
      · rw [upd_ne c] at e; exact A.er.sub b o e
    have ex : Same F' (upd F' a (.lst xs)) := same_upd e2
    refine ⟨upd F' a (.lst xs), ⟨sub, A.er.len, fun i d h => ?_, fun i p ds h => ?_, A.er.inj⟩, .lst (.of upd_same) (rpAll_mono ex _ _ q), fun b z => absurd z ownV_val, A.st.ff.trans ex, A.st.keep, fun b o h1 h2 h3 => ?_, fun b z => ?_, A.st.there⟩
    · obtain ⟨w, h1, h2⟩ := A.er.val i d h
      exact ⟨w, h1, rp_mono ex _ _ h2⟩
    · obtain ⟨c, ys, h1, h2, h3, h4, h5⟩ := A.er.own i p ds h
      refine ⟨c, ys, h1, h2, ?_, rpAll_mono ex _ _ h4, h5⟩
      rw [upd_ne]
      · exact h3
      · rintro rfl
        exact dist ⟨i, p, ds, h, h1⟩
    · have h4 := A.st.nof b o h1 h2 h3
      rw [upd_ne]
      · exact h4
      · rintro rfl
        rcases A.st.oo b (.inr ⟨p, ds, rfl, rfl⟩) with z | z
        · exact h2 z
        · rw [h1] at z; cases z
    · rcases z with z | z
      · exact A.st.oo b (.inl z)
      · exact absurd z ownV_val

/-- what a value is, read at once -/
def Vp (K : PySem.W.Frag) (F H : Hp) (v : V) (d : PD) : Prop := Rp K F v d ∨ ∃ a xs ds, v = .ref a ∧ d = .list ds ∧ H a = some (.lst xs) ∧ RpAll K F xs ds
theorem Vp.list {F H : Hp} (s : Same F H) {v : V} {ds : List PD} (h : Vp K F H v (.list ds)) : ∃ a xs, v = .ref a ∧ LsR K H a xs ∧ RpAll K F xs ds := by
  rcases h with h | ⟨a, xs, es, rfl, e, h1, h2⟩
  · cases h with
    | lst h1 h2 => exact ⟨_, _, rfl, ls_mono s h1, h2⟩
  · cases e
    exact ⟨a, xs, rfl, .of h1, h2⟩
theorem Vp.tuple {F H : Hp} (s : Same F H) {v : V} {ds : List PD} (h : Vp K F H v (.tuple ds)) : ∃ a xs, v = .ref a ∧ SqT K H a xs ∧ RpAll K F xs ds := by
  rcases h with h | ⟨a, xs, es, rfl, e, h1, h2⟩
  · cases h with
    | tup h1 h2 => exact ⟨_, _, rfl, sqt_mono s h1, h2⟩
  · cases e
theorem Vp.int {F H : Hp} {v : V} {i : Int} (h : Vp K F H v (.int i)) : v = .int i := by
  rcases h with h | ⟨a, xs, es, rfl, e, h1, h2⟩
  · cases h; rfl
  · cases e
theorem Vp.str {F H : Hp} {v : V} {i : Str} (h : Vp K F H v (.str i)) : v = .str i := by
  rcases h with h | ⟨a, xs, es, rfl, e, h1, h2⟩
  · cases h; rfl
  · cases e
theorem Vp.bl {F H : Hp} {v : V} {i : Bool} (h : Vp K F H v (.bool i)) : v = .bl i := by
  rcases h with h | ⟨a, xs, es, rfl, e, h1, h2⟩
  · cases h; rfl
  · cases e
theorem Vp.non {F H : Hp} {v : V} (h : Vp K F H v .none) : v = .non := by
  rcases h with h | ⟨a, xs, es, rfl, e, h1, h2⟩
  · cases h; rfl
  · cases e
theorem Vp.rp {F H : Hp} (s : Same F H) {v : V} {d : PD} (h : Vp K F H v d) : Rp K H v d := by
  rcases h with h | ⟨a, xs, es, rfl, rfl, h1, h2⟩
  · exact rp_mono s _ _ h
  · exact .lst (.of h1) (rpAll_mono s _ _ h2)
theorem Vp.dp {F H : Hp} (s : Same F H) {v : V} {d : PD} (h : Vp K F H v d) : Dp K H v d := rp_dp _ _ (h.rp s)
end
end Dv

set_option Elab.async false
set_option linter.all false
set_option maxRecDepth 100000
set_option maxHeartbeats 4000000
/-! the operations on data, and their rules -/
namespace Dv
open PySem PySem.Spec PyProof.Rows L2

inductive Bop where
  | add | sub | mul | div | mod | pow
  deriving DecidableEq, Repr
inductive Cop where
  | eq | ne | lt | le | gt | ge | is | isn | isin | nin
  deriving DecidableEq, Repr

/-- an operator on data -/
noncomputable def bopD : Bop → PD → PD → Option Slo
  | .add, .int i, .int j => some (.val (.int (i + j)))
  | .add, .str x, .str y => if x.length + y.length ≤ sizeLine then some (.val (.str (x ++ y))) else none
  | .add, .tuple xs, .tuple ys => if xs.length + ys.length ≤ sizeLine then some (.val (.tuple (xs ++ ys))) else none
  | .add, .list xs, .list ys => if xs.length + ys.length ≤ sizeLine then some (.own none (xs ++ ys)) else none
  | .sub, .int i, .int j => some (.val (.int (i - j)))
  | .mul, .int i, .int j => @ite _ ((-(2 ^ 64) < i ∧ i < 2 ^ 64) ∨ (-(2 ^ 64) < j ∧ j < 2 ^ 64)) (Classical.propDecidable _) (some (.val (.int (i * j)))) none
  | .mul, .list xs, .int k => @ite _ (-(2 ^ 63) ≤ k ∧ k < 2 ^ 63 ∧ xs.length * k.toNat ≤ sizeLine) (Classical.propDecidable _) (some (.own none (List.replicate k.toNat xs).flatten)) none
  | .mul, .tuple xs, .int k => @ite _ (xs ≠ [] ∧ 2 ≤ k ∧ k ≤ 1000 ∧ xs.length ≤ 1000) (Classical.propDecidable _) (some (.val (.tuple (List.replicate k.toNat xs).flatten))) none
  | .div, .int i, .int j => @ite _ (0 < j ∧ j < 1073741824) (Classical.propDecidable _) (some (.val (.int (i / j)))) none
  | .mod, .int i, .int j => if 0 < j then some (.val (.int (i % j))) else none
  | .pow, .int i, .int j => @ite _ (0 ≤ j ∧ j ≤ 1000000 ∧ i.natAbs < 2 ^ 64) (Classical.propDecidable _) (some (.val (.int (i ^ j.toNat)))) none
  | _, _, _ => none

def scalD : PD → Bool
  | .none | .bool _ | .int _ | .str _ => true
  | _ => false
/-- == on data: what the rules tell of it -/
noncomputable def eqD (d e : PD) : Option Bool := match d, e with
  | .int i, .int j => some (i == j)
  | .str x, .str y => some (x == y)
  | .bool a, .bool b => some (a == b)
  | .none, .none => some true
  | .none, .int _ | .int _, .none | .none, .str _ | .str _, .none | .none, .bool _ | .bool _, .none => some false
  | .int _, .str _ | .str _, .int _ | .bool _, .str _ | .str _, .bool _ => some false
  | d, e => @ite _ (SeqAt.shaped d = true ∧ SeqAt.shaped e = true) (Classical.propDecidable _) (some (PyData.eqv d e)) none
def allScal (ds : List PD) : Bool := ds.all scalD
def inD (d : PD) (ds : List PD) : Bool := ds.any fun e => PyData.eqv e d
def notB : Option Bool → Option Bool
  | some b => some (!b)
  | none => none
/-- a comparison on data -/
noncomputable def copD : Cop → PD → PD → Option Bool
  | .eq, d, e => eqD d e
  | .ne, d, e => notB (eqD d e)
  | .lt, .int i, .int j => some (decide (i < j))
  | .le, .int i, .int j => some (decide (i ≤ j))
  | .gt, .int i, .int j => some (decide (j < i))
  | .ge, .int i, .int j => some (decide (j ≤ i))
  | .lt, .str i, .str j => some (decide (i.cps.toList < j.cps.toList))
  | .is, .none, .none => some true
  | .is, .bool _, .none | .is, .int _, .none | .is, .str _, .none | .is, .list _, .none | .is, .tuple _, .none => some false
  | .isn, .none, .none => some false
  | .isn, .bool _, .none | .isn, .int _, .none | .isn, .str _, .none | .isn, .list _, .none | .isn, .tuple _, .none => some true
  | .is, .bool a, .bool b => some (decide (a = b))
  | .isn, .bool a, .bool b => some (!decide (a = b))
  | .isin, d, .list ds => @ite _ (scalD d = true ∧ allScal ds = true) (Classical.propDecidable _) (some (inD d ds)) none
  | .nin, d, .list ds => @ite _ (scalD d = true ∧ allScal ds = true) (Classical.propDecidable _) (some (!inD d ds)) none
  | .isin, d, .tuple ds => @ite _ (scalD d = true ∧ allScal ds = true) (Classical.propDecidable _) (some (inD d ds)) none
  | .nin, d, .tuple ds => @ite _ (scalD d = true ∧ allScal ds = true) (Classical.propDecidable _) (some (!inD d ds)) none
  | .isin, .str x, .str y => some (!(Builtin.Str.occurrences y x 0 y.length 1).isEmpty)
  | .nin, .str x, .str y => some (!(!(Builtin.Str.occurrences y x 0 y.length 1).isEmpty))
  | _, _, _ => none

/-- a rule on two values, by their data -/
def OpD (X : Cx) (f : Value → Value → Sem Value) (g : PD → PD → Option Slo) : Prop :=
  ∀ (pins : List (Addr × Obj)) (s : Shared) (σ : L2.St) (H : Hp) (x y : V) (v u : Value) (Q : VK) (F : Hp) (d e : PD) (r : Slo), Inv X pins σ H s → RelV x v → RelV y u → Same F H → Vp X.K F H x d → Vp X.K F H y e → g d e = some r →
    (∀ z F' H', Made X.K F H r z F' H' → Q z H') → wpAny (model X.prog X.w) X.A (f v u) (EP X pins σ Q) X.xe s

section
variable {X : Cx}
theorem some_of_ite {α : Type} {c : Prop} {inst : Decidable c} {a b : α} (h : (if c then some a else none) = some b) : c ∧ a = b := by
  by_cases hc : c
  · rw [if_pos hc] at h
    exact ⟨hc, Option.some.inj h⟩
  · rw [if_neg hc] at h; cases h

theorem opd_add : OpD X (binaryOp .Add) (bopD .add) := by
  intro pins s σ H x y v u Q F d e r I rx ry sm vd ve h q
  unfold bopD at h
  split at h <;> try (first | cases h; done | (rename_i hb; cases hb; done))
  · cases h
    rw [vd.int] at rx; rw [ve.int] at ry
    exact op_add pins s σ H _ _ v u Q I rx ry ⟨_, _, rfl, rfl, q _ _ _ (made_same sm (.int _))⟩
  · rename_i x1 y1 _
    obtain ⟨hc, rfl⟩ := some_of_ite h
    rw [vd.str] at rx; rw [ve.str] at ry
    exact op_add_str pins s σ H _ _ v u Q I rx ry ⟨_, _, rfl, rfl, hc, q _ _ _ (made_same sm (.str _))⟩
  · rename_i xs ys _
    obtain ⟨hc, rfl⟩ := some_of_ite h
    obtain ⟨a, vs, rfl, h1, h2⟩ := vd.tuple sm
    obtain ⟨b, us, rfl, h3, h4⟩ := ve.tuple sm
    have l1 := rpAll_len h2
    have l2 := rpAll_len h4
    refine op_catA pins s σ H _ _ v u Q I rx ry ⟨a, b, vs, us, rfl, rfl, h1, h3, by omega, fun z => ?_, fun _ z => ?_, fun _ _ p hp => q _ _ _ (made_tup sm hp (rpAll_app h2 h4))⟩
    · subst z; cases h2
      rcases ve with ve | ⟨_, _, _, _, e, _⟩
      · exact q _ _ _ (made_same sm ve)
      · cases e
    · subst z; cases h4
      rw [List.append_nil] at q
      rcases vd with vd | ⟨_, _, _, _, e, _⟩
      · exact q _ _ _ (made_same sm vd)
      · cases e
  · rename_i xs ys _
    obtain ⟨hc, rfl⟩ := some_of_ite h
    obtain ⟨a, vs, rfl, h1, h2⟩ := vd.list sm
    obtain ⟨b, us, rfl, h3, h4⟩ := ve.list sm
    have l1 := rpAll_len h2
    have l2 := rpAll_len h4
    cases rx
    cases ry
    obtain ⟨z1, its, n, r1, e1⟩ := h1.exact I
    obtain ⟨z2, its2, n2, r2, e2⟩ := h3.exact I
    have k1 := r1.length
    have k2 := r2.length
    refine PySem.P.add_list e1 e2 ?_ (by rw [List.size_toArray, List.size_toArray]; omega)
    rw [show its.toArray ++ its2.toArray = (its ++ its2).toArray by simp]
    exact ⟨.ref s.heap.objs.size, upd H s.heap.objs.size (.lst (vs ++ us)), I.lnew (t' := s.toks) (r1.append r2) (by rw [List.length_append]; omega), rfl, q _ _ _ (made_lst sm I.fresh (rpAll_app h2 h4))⟩
theorem opd_sub : OpD X (binaryOp .Sub) (bopD .sub) := by
  intro pins s σ H x y v u Q F d e r I rx ry sm vd ve h q
  unfold bopD at h
  split at h <;> try (first | cases h; done | (rename_i hb; cases hb; done))
  cases h
  rw [vd.int] at rx; rw [ve.int] at ry
  exact op_sub pins s σ H _ _ v u Q I rx ry ⟨_, _, rfl, rfl, q _ _ _ (made_same sm (.int _))⟩
theorem opd_div : OpD X (binaryOp .FloorDiv) (bopD .div) := by
  intro pins s σ H x y v u Q F d e r I rx ry sm vd ve h q
  unfold bopD at h
  split at h <;> try (first | cases h; done | (rename_i hb; cases hb; done))
  obtain ⟨hc, rfl⟩ := some_of_ite h
  rw [vd.int] at rx; rw [ve.int] at ry
  exact op_fdiv pins s σ H _ _ v u Q I rx ry ⟨_, _, rfl, rfl, hc, q _ _ _ (made_same sm (.int _))⟩
theorem opd_mod : OpD X (binaryOp .Mod) (bopD .mod) := by
  intro pins s σ H x y v u Q F d e r I rx ry sm vd ve h q
  unfold bopD at h
  split at h <;> try (first | cases h; done | (rename_i hb; cases hb; done))
  obtain ⟨hc, rfl⟩ := some_of_ite h
  rw [vd.int] at rx; rw [ve.int] at ry
  exact op_mod pins s σ H _ _ v u Q I rx ry ⟨_, _, rfl, rfl, hc, q _ _ _ (made_same sm (.int _))⟩
theorem opd_pow : OpD X (binaryOp .Pow) (bopD .pow) := by
  intro pins s σ H x y v u Q F d e r I rx ry sm vd ve h q
  unfold bopD at h
  split at h <;> try (first | cases h; done | (rename_i hb; cases hb; done))
  obtain ⟨hc, rfl⟩ := some_of_ite h
  rw [vd.int] at rx; rw [ve.int] at ry
  exact op_pow pins s σ H _ _ v u Q I rx ry ⟨_, _, rfl, rfl, hc, q _ _ _ (made_same sm (.int _))⟩
theorem opd_mul : OpD X (binaryOp .Mult) (bopD .mul) := by
  intro pins s σ H x y v u Q F d e r I rx ry sm vd ve h q
  unfold bopD at h
  split at h <;> try (first | cases h; done | (rename_i hb; cases hb; done))
  · obtain ⟨hc, rfl⟩ := some_of_ite h
    rw [vd.int] at rx; rw [ve.int] at ry
    exact op_mul pins s σ H _ _ v u Q I rx ry ⟨_, _, rfl, rfl, hc, q _ _ _ (made_same sm (.int _))⟩
  · rename_i xs k _
    obtain ⟨⟨h1, h2, h3⟩, rfl⟩ := some_of_ite h
    rw [ve.int] at ry
    obtain ⟨a, vs, rfl, r1, q1⟩ := vd.list sm
    have l1 := rpAll_len q1
    · cases rx
      obtain ⟨t, rfl⟩ := ry
      obtain ⟨z1, its, n, rv, e1⟩ := r1.exact I
      have k1 := rv.length
      have b1 : its.toArray.size * k.toNat ≤ sizeLine := by rw [List.size_toArray, ← k1, l1]; exact h3
      have b2 : ¬ its.toArray.size * k.toNat > (2 ^ 63 - 1) / 8 := fun z => by
        have z2 : (sizeLine : Nat) ≤ (2 ^ 63 - 1) / 8 := by decide
        omega
      have b3 : ¬ (!Builtin.List.listFitsIndex k) = true := by rw [fitsIndex_both h1 h2]; decide
      have b4 : ¬ Builtin.List.listTooLong (its.toArray.size * k.toNat) = true := by rw [notLongL b1]; decide
      have f1 : ∀ m : Nat, List.foldl (fun p q => p ++ q) #[] (List.replicate m its.toArray) = (List.replicate m its).flatten.toArray := fun m => (foldl_rep its m []).trans (by rw [List.nil_append])
      have f2 : List.foldl (fun p q => p ++ q) #[] (List.replicate (if its.toArray.isEmpty = true then 0 else k.toNat) its.toArray) = (List.replicate k.toNat its).flatten.toArray := by
        rw [f1]
        cases its with
        | nil => simp
        | cons c cs => rw [if_neg (by simp)]
      have tl : s.TypeIs (.ref a) "list" := ⟨_, e1, rfl⟩
      refine wpAny_binaryOp_repeat_ref (T := "list") (U := "int") (by decide) tl (fun s' => typeIs_int s' k t) noFill_list_mul PySem.F.fills_int_mul PySem.F.slot_int_rmul repeat_list PySem.F.slot_int_index.lookup ?_
      refine call_meets PySem.F.slot_int_rmul (typeIs_int s k t) PySem.F.entry_int_rmul (PySem.F.args_int_rmul_2 _ _) (int___rmul___int_list k t a its.toArray n) ⟨e1, rfl, ⟨_, e1, rfl⟩, ?_⟩
      refine call_meets PySem.F.slot_list_mul tl PySem.F.entry_list_mul (PySem.F.args_list_mul_2 _ _) (AutoListH.list___mul___list_int_3 a its.toArray n k t b3 b2 b4) ⟨e1, ?_⟩
      rw [f2]
      have b5 : (List.replicate k.toNat vs).flatten.length ≤ sizeLine := by rw [PyProof.Rows.lm_len_rep_flat, Nat.mul_comm, l1]; exact h3
      exact ⟨.ref s.heap.objs.size, upd H s.heap.objs.size (.lst (List.replicate k.toNat vs).flatten), I.lnew (t' := s.toks) (rv.rep k.toNat) b5, rfl, q _ _ _ (made_lst sm I.fresh (rpAll_rep q1 _))⟩
  · rename_i xs k _
    obtain ⟨⟨h1, h2, h3, h4⟩, rfl⟩ := some_of_ite h
    rw [ve.int] at ry
    obtain ⟨a, vs, rfl, r1, q1⟩ := vd.tuple sm
    have l1 := rpAll_len q1
    exact op_repT pins s σ H _ _ v u Q I rx ry ⟨a, k, vs, rfl, rfl, r1, fun z => h1 (by subst z; cases q1; rfl), h2, h3, by omega, fun p hp => q _ _ _ (made_tup sm hp (rpAll_rep q1 _))⟩

/-! ### comparisons -/
def CpD (X : Cx) (f : Value → Value → Sem Value) (g : PD → PD → Option Bool) : Prop :=
  ∀ (pins : List (Addr × Obj)) (s : Shared) (σ : L2.St) (H : Hp) (x y : V) (v u : Value) (Q : VK) (F : Hp) (d e : PD) (b : Bool), Inv X pins σ H s → RelV x v → RelV y u → Same F H → Vp X.K F H x d → Vp X.K F H y e → g d e = some b →
    Q (.bl b) H → wpAny (model X.prog X.w) X.A (f v u) (EP X pins σ Q) X.xe s
theorem dec_eq {α : Type} [DecidableEq α] (a b : α) : (a == b) = decide (a = b) := by
  by_cases h : a = b
  · subst h; simp
  · rw [decide_eq_false h]; exact beq_eq_false_iff_ne.mpr h
theorem cpd_eq (hu : X.A.units + 64 < cLine) : CpD X (compareOp .Eq) eqD := by
  intro pins s σ H x y v u Q F d e b I rx ry sm vd ve h q
  unfold eqD at h
  split at h
  case h_15 =>
    obtain ⟨⟨s1, s2⟩, rfl⟩ := some_of_ite h
    exact op_eqD hu pins s σ H x y v u Q I rx ry ⟨_, _, vd.dp sm, ve.dp sm, s1, s2, q⟩
  all_goals
    cases h
    (first | rw [vd.int] at rx | rw [vd.str] at rx | rw [vd.bl] at rx | rw [vd.non] at rx)
    (first | rw [ve.int] at ry | rw [ve.str] at ry | rw [ve.bl] at ry | rw [ve.non] at ry)
    refine op_eq pins s σ H _ _ v u Q I rx ry ⟨rfl, ?_⟩
    first
      | exact q
      | (rw [dec_int]; exact q)
      | (rw [dec_str]; exact q)
      | (rw [dec_bl]; exact q)
theorem not_some {o : Option Bool} {b : Bool} (h : notB o = some b) : o = some (!b) := by
  cases o with
  | none => cases h
  | some c => cases h; rw [Bool.not_not]
theorem cpd_ne (hu : X.A.units + 64 < cLine) : CpD X (compareOp .NotEq) (fun d e => notB (eqD d e)) := by
  intro pins s σ H x y v u Q F d e b I rx ry sm vd ve h q
  have h := not_some h
  unfold eqD at h
  split at h
  case h_15 =>
    obtain ⟨⟨s1, s2⟩, hb⟩ := some_of_ite h
    exact op_neD hu pins s σ H x y v u Q I rx ry ⟨_, _, vd.dp sm, ve.dp sm, s1, s2, by rw [hb, Bool.not_not]; exact q⟩
  all_goals
    have h := Option.some.inj h
    (first | rw [vd.int] at rx | rw [vd.str] at rx | rw [vd.bl] at rx | rw [vd.non] at rx)
    (first | rw [ve.int] at ry | rw [ve.str] at ry | rw [ve.bl] at ry | rw [ve.non] at ry)
    refine op_ne pins s σ H _ _ v u Q I rx ry ⟨rfl, ?_⟩
    first
      | (rw [dec_int, h, Bool.not_not]; exact q)
      | (rw [dec_str, h, Bool.not_not]; exact q)
      | (rw [dec_bl, h, Bool.not_not]; exact q)
      | (cases b <;> first | exact q | cases h)
theorem scal_flat {F H : Hp} {K : PySem.W.Frag} {v : V} {d : PD} (h : Vp K F H v d) (hs : scalD d = true) : flatV v = true := by
  cases d with
  | none => rw [h.non]; rfl
  | bool _ => rw [h.bl]; rfl
  | int _ => rw [h.int]; rfl
  | str _ => rw [h.str]; rfl
  | list _ => cases hs
  | tuple _ => cases hs
  | dict _ => cases hs
theorem scalAll_flat {F : Hp} {K : PySem.W.Frag} : ∀ {vs : List V} {ds : List PD}, RpAll K F vs ds → allScal ds = true → vs.all flatV = true
  | _, _, .nil, _ => rfl
  | _, _, .cons (v := v) (d := d) q t, h => by
    have h' : scalD d = true ∧ allScal _ = true := Bool.and_eq_true_iff.mp h
    rw [List.all_cons, scalAll_flat t h'.2, scal_flat (H := F) (.inl q) h'.1]; rfl
theorem eqV_eqv {F H F2 : Hp} {K : PySem.W.Frag} {v u : V} {d e : PD} (hv : Vp K F H v d) (hu : Rp K F2 u e) (hd : scalD d = true) (he : scalD e = true) : eqV u v = PyData.eqv e d := by
  cases d <;> (try cases hd) <;> cases hu <;> (try cases he) <;>
    (first | rw [hv.non] | rw [hv.bl] | rw [hv.int] | rw [hv.str]) <;> simp [eqV, PyData.eqv]
theorem inV_inD {F H F2 : Hp} {K : PySem.W.Frag} {v : V} {d : PD} (hv : Vp K F H v d) (hd : scalD d = true) : ∀ {us : List V} {es : List PD}, RpAll K F2 us es → allScal es = true → inV v us = inD d es
  | _, _, .nil, _ => rfl
  | _, _, .cons (v := u) (d := e) (vs := us) (ds := es) q t, h => by
    have h' : scalD e = true ∧ allScal es = true := Bool.and_eq_true_iff.mp h
    have ih := inV_inD hv hd t h'.2
    unfold inV inD at ih ⊢
    rw [List.any_cons, List.any_cons, ih, eqV_eqv hv q hd h'.1]
def inN (neg : Bool) (d : PD) (ds : List PD) : Bool := if neg = true then !inD d ds else inD d ds
noncomputable def seqIn (neg : Bool) (d : PD) : PD → Option Bool
  | .list ds => @ite _ (scalD d = true ∧ allScal ds = true) (Classical.propDecidable _) (some (inN neg d ds)) none
  | .tuple ds => @ite _ (scalD d = true ∧ allScal ds = true) (Classical.propDecidable _) (some (inN neg d ds)) none
  | _ => none
theorem cpd_seq (neg : Bool) (op : CmpOp) (hr : OpR X (compareOp op) (rIn X.K neg)) : CpD X (compareOp op) (seqIn neg) := by
  intro pins s σ H x y v u Q F d e b I rx ry sm vd ve h q
  unfold seqIn at h
  split at h
  · obtain ⟨⟨s1, s2⟩, rfl⟩ := some_of_ite h
    obtain ⟨a, xs, rfl, h1, h2⟩ := ve.list sm
    refine hr pins s σ H _ _ v u Q I rx ry ⟨a, xs, rfl, .inl h1.sq, scal_flat vd s1, scalAll_flat h2 s2, ?_⟩
    rw [inV_inD vd s1 h2 s2]; exact q
  · obtain ⟨⟨s1, s2⟩, rfl⟩ := some_of_ite h
    obtain ⟨a, xs, rfl, h1, h2⟩ := ve.tuple sm
    refine hr pins s σ H _ _ v u Q I rx ry ⟨a, xs, rfl, .inr h1, scal_flat vd s1, scalAll_flat h2 s2, ?_⟩
    rw [inV_inD vd s1 h2 s2]; exact q
  · cases h
theorem cpd_int (op : CmpOp) (p : Int → Int → Bool) (hr : OpR X (compareOp op) (rI0 fun i j => .bl (p i j))) : CpD X (compareOp op) (fun d e => match d, e with
    | .int i, .int j => some (p i j) | _, _ => none) := by
  intro pins s σ H x y v u Q F d e b I rx ry sm vd ve h q
  dsimp only at h
  split at h
  · cases h
    rw [vd.int] at rx; rw [ve.int] at ry
    exact hr pins s σ H _ _ v u Q I rx ry ⟨_, _, rfl, rfl, q⟩
  · cases h
theorem CpD.ofEq {f : Value → Value → Sem Value} {g g' : PD → PD → Option Bool} (h : CpD X f g) (e : ∀ x y b, g' x y = some b → g x y = some b) : CpD X f g' :=
  fun pins s σ H x y v u Q F d e' b I rx ry sm vd ve k q => h pins s σ H x y v u Q F d e' b I rx ry sm vd ve (e _ _ _ k) q
theorem CpD.two {f : Value → Value → Sem Value} {g1 g2 g' : PD → PD → Option Bool} (h1 : CpD X f g1) (h2 : CpD X f g2) (e : ∀ x y b, g' x y = some b → g1 x y = some b ∨ g2 x y = some b) : CpD X f g' :=
  fun pins s σ H x y v u Q F d e' b I rx ry sm vd ve k q => (e _ _ _ k).elim (fun k => h1 pins s σ H x y v u Q F d e' b I rx ry sm vd ve k q) fun k => h2 pins s σ H x y v u Q F d e' b I rx ry sm vd ve k q
theorem cpd_lt : CpD X (compareOp .Lt) (copD .lt) := by
  intro pins s σ H x y v u Q F d e b I rx ry sm vd ve h q
  unfold copD at h
  split at h <;> try (first | cases h; done | (rename_i hb; cases hb; done))
  · cases h
    rw [vd.int] at rx; rw [ve.int] at ry
    exact op_lt pins s σ H _ _ v u Q I rx ry ⟨_, _, rfl, rfl, q⟩
  · cases h
    rw [vd.str] at rx; rw [ve.str] at ry
    exact op_lt_str pins s σ H _ _ v u Q I rx ry ⟨_, _, rfl, rfl, q⟩
theorem cpd_le : CpD X (compareOp .LtE) (copD .le) := by
  intro pins s σ H x y v u Q F d e b I rx ry sm vd ve h q
  unfold copD at h
  split at h <;> try (first | cases h; done | (rename_i hb; cases hb; done))
  cases h
  rw [vd.int] at rx; rw [ve.int] at ry
  exact op_le pins s σ H _ _ v u Q I rx ry ⟨_, _, rfl, rfl, q⟩
theorem cpd_gt : CpD X (compareOp .Gt) (copD .gt) := by
  intro pins s σ H x y v u Q F d e b I rx ry sm vd ve h q
  unfold copD at h
  split at h <;> try (first | cases h; done | (rename_i hb; cases hb; done))
  cases h
  rw [vd.int] at rx; rw [ve.int] at ry
  exact op_gt pins s σ H _ _ v u Q I rx ry ⟨_, _, rfl, rfl, q⟩
theorem cpd_ge : CpD X (compareOp .GtE) (copD .ge) := by
  intro pins s σ H x y v u Q F d e b I rx ry sm vd ve h q
  unfold copD at h
  split at h <;> try (first | cases h; done | (rename_i hb; cases hb; done))
  cases h
  rw [vd.int] at rx; rw [ve.int] at ry
  exact op_ge pins s σ H _ _ v u Q I rx ry ⟨_, _, rfl, rfl, q⟩
theorem Vp.nn {F H : Hp} {K : PySem.W.Frag} {v : V} {d : PD} (h : Vp K F H v d) (hd : d ≠ .none) : v ≠ .non := by
  rintro rfl
  rcases h with h | ⟨a, xs, es, e, _⟩
  · cases h; exact hd rfl
  · cases e
theorem cpd_is : CpD X (compareOp .Is) (copD .is) := by
  intro pins s σ H x y v u Q F d e b I rx ry sm vd ve h q
  unfold copD at h
  split at h <;> try (first | cases h; done | (rename_i hb; cases hb; done))
  all_goals
    cases h
    first
      | (rw [vd.bl] at rx; rw [ve.bl] at ry
         exact op_isBl pins s σ H _ _ v u Q I rx ry ⟨_, _, rfl, rfl, q⟩)
      | (rw [ve.non] at ry
         refine op_isN pins s σ H _ _ v u Q I rx ry ⟨rfl, ?_⟩
         first
           | (rw [vd.non]; exact q)
           | (rw [decide_eq_false (vd.nn (fun z => nomatch z))]; exact q))
theorem cpd_isn : CpD X (compareOp .IsNot) (copD .isn) := by
  intro pins s σ H x y v u Q F d e b I rx ry sm vd ve h q
  unfold copD at h
  split at h <;> try (first | cases h; done | (rename_i hb; cases hb; done))
  all_goals
    cases h
    first
      | (rw [vd.bl] at rx; rw [ve.bl] at ry
         exact op_notBl pins s σ H _ _ v u Q I rx ry ⟨_, _, rfl, rfl, q⟩)
      | (rw [ve.non] at ry
         refine op_notN pins s σ H _ _ v u Q I rx ry ⟨rfl, ?_⟩
         first
           | (rw [vd.non]; exact q)
           | (rw [decide_eq_false (vd.nn (fun z => nomatch z))]; exact q))
theorem cpd_in : CpD X (compareOp .In) (copD .isin) := by
  intro pins s σ H x y v u Q F d e b I rx ry sm vd ve h q
  unfold copD at h
  split at h <;> try (first | cases h; done | (rename_i hb; cases hb; done))
  · exact cpd_seq false .In op_in_seq pins s σ H x y v u Q F _ _ b I rx ry sm vd ve h q
  · exact cpd_seq false .In op_in_seq pins s σ H x y v u Q F _ _ b I rx ry sm vd ve h q
  · cases h
    rw [vd.str] at rx; rw [ve.str] at ry
    exact op_in_str pins s σ H _ _ v u Q I rx ry ⟨_, _, rfl, rfl, q⟩
theorem cpd_nin : CpD X (compareOp .NotIn) (copD .nin) := by
  intro pins s σ H x y v u Q F d e b I rx ry sm vd ve h q
  unfold copD at h
  split at h <;> try (first | cases h; done | (rename_i hb; cases hb; done))
  · exact cpd_seq true .NotIn op_notIn_seq pins s σ H x y v u Q F _ _ b I rx ry sm vd ve h q
  · exact cpd_seq true .NotIn op_notIn_seq pins s σ H x y v u Q F _ _ b I rx ry sm vd ve h q
  · cases h
    rw [vd.str] at rx; rw [ve.str] at ry
    exact op_notin_str pins s σ H _ _ v u Q I rx ry ⟨_, _, rfl, rfl, q⟩
/-- the operators of the text -/
def copOf : CmpOp → Option Cop
  | .Eq => some .eq | .NotEq => some .ne | .Lt => some .lt | .LtE => some .le | .Gt => some .gt | .GtE => some .ge
  | .Is => some .is | .IsNot => some .isn | .In => some .isin | .NotIn => some .nin
def bopOf : Operator → Option Bop
  | .Add => some .add | .Sub => some .sub | .Mult => some .mul | .FloorDiv => some .div | .Mod => some .mod | .Pow => some .pow
  | _ => none
theorem cpd_of {op : CmpOp} {o : Cop} (h : copOf op = some o) (hu : X.A.units + 64 < cLine) : CpD X (compareOp op) (copD o) := by
  cases op <;> (cases h) <;> first
    | exact cpd_eq hu | exact cpd_ne hu | exact cpd_lt | exact cpd_le | exact cpd_gt | exact cpd_ge | exact cpd_is | exact cpd_isn | exact cpd_in | exact cpd_nin
theorem opd_of {op : Operator} {o : Bop} (h : bopOf op = some o) : OpD X (binaryOp op) (bopD o) := by
  cases op <;> (cases h) <;> first
    | exact opd_add | exact opd_sub | exact opd_mul | exact opd_div | exact opd_mod | exact opd_pow
end
end Dv

set_option Elab.async false
set_option linter.all false
set_option maxRecDepth 100000
set_option maxHeartbeats 4000000
/-! the small language of the walk, its value -/
namespace Dv
open PySem PySem.Spec PyProof.Rows L2

inductive Pr where
  | len | int | str | abs | tuple | list | max | min | sum | all | repr | sorted
  deriving DecidableEq, Repr
inductive Mt where
  | find | split | join
  deriving DecidableEq, Repr
inductive Ty where
  | int | str | bool | tuple | list
  deriving DecidableEq, Repr
inductive Ir where
  | var (i : Nat) | lend (i : Nat) | non | bl (b : Bool) | int (i : Int) | str (s : Str) | glb (g : Nat)
  | bin (o : Bop) (a b : Ir) | neg (a : Ir) | not (a : Ir)
  | cmp (o : Cop) (a b : Ir) | chain (o p : Cop) (a b c : Ir)
  | and (a b : Ir) | or (a b : Ir) | ife (c a b : Ir)
  | sub (a b : Ir) | slc (a lo hi : Ir) | rev (a : Ir)
  | tup (es : Ir) | lst (es : Ir)
  | call (f : Nat) (es : Ir) | prim (p : Pr) (es : Ir) | isi (ts : List Ty) (a : Ir)
  | comp (t it c e : Ir) (vs : List Nat)
  | rng1 (a : Ir) | rng2 (a b : Ir)
  | app (i : Nat) (e : Ir) | ext (i : Nat) (e : Ir) | pop (i : Nat) | clr (i : Nat) | meth (m : Mt) (a es : Ir)
  | nil | cons (a b : Ir)
  | set (i : Nat) (keep : Bool) (e : Ir) | aug (i : Nat) (pl : Bool) (e : Ir) | unp (t e : Ir) | sti (i : Nat) (ix e : Ir) | ex (e : Ir)
  | ifs (c a b : Ir) | whl (c b : Ir) | fors (t it b : Ir) | ret (e : Ir) | brk | cnt | pas
  deriving DecidableEq, Repr

/-- an operand: a name's slot, read when the operation is done, or a value -/
inductive Opd where
  | slot (i : Nat) | res (r : Slo)
def rdS : Option Slo → Option PD
  | some (.val d) => some d
  | some (.own _ ds) => some (.list ds)
  | _ => none
def rdO (ρ : DEn) : Opd → Option PD
  | .slot i => rdS ρ[i]?
  | .res r => rdS (some r)
def rdAll (ρ : DEn) : List Opd → Option (List PD)
  | [] => some []
  | x :: xs => match rdO ρ x, rdAll ρ xs with
    | some d, some ds => some (d :: ds)
    | _, _ => none

/-- data's parts -/
def subD : PD → PD → Option PD
  | .list ds, .int i => atI ds i
  | .tuple ds, .int i => atI ds i
  | .str z, .int i => if z.length ≤ sizeLine then (atI z.cps.toList i).map fun c => .str ⟨#[c]⟩ else none
  | _, _ => none
def cutD (ds : List PD) (lo hi : Option Int) : List PD := (ds.drop (HT.sIx ds.length 0 lo)).take (HT.sIx ds.length ds.length hi - HT.sIx ds.length 0 lo)
def slD : PD → Option Int → Option Int → Option Slo
  | .list ds, lo, hi => some (.own none (cutD ds lo hi))
  | .tuple ds, lo, hi => some (.val (.tuple (cutD ds lo hi)))
  | .str z, lo, hi => if z.length ≤ sizeLine then some (.val (.str (Txt.slice z lo hi))) else none
  | _, _, _ => none
def intsOf : List PD → Option (List Int)
  | [] => some []
  | .int i :: r => (intsOf r).map fun l => i :: l
  | _ => none
def boolsOf : List PD → Option (List Bool)
  | [] => some []
  | .bool b :: r => (boolsOf r).map fun l => b :: l
  | _ => none
noncomputable def prD : Pr → List PD → Option Slo
  | .len, [.list ds] => some (.val (.int ds.length))
  | .len, [.tuple ds] => some (.val (.int ds.length))
  | .len, [.str z] => if z.length ≤ sizeLine then some (.val (.int z.length)) else none
  | .int, [.int i] => some (.val (.int i))
  | .int, [.bool b] => some (.val (.int (if b then 1 else 0)))
  | .int, [.str a] => match PySem.intText? a with
    | some n => if a.length ≤ 640 then some (.val (.int n)) else none
    | none => none
  | .str, [.int i] => @ite _ (i.natAbs.log2 < 1920) (Classical.propDecidable _) (some (.val (.str (toString i)))) none
  | .str, [.str a] => some (.val (.str a))
  | .abs, [.int i] => some (.val (.int (if i < 0 then -i else i)))
  | .tuple, [.list ds] => some (.val (.tuple ds))
  | .tuple, [.tuple ds] => some (.val (.tuple ds))
  | .list, [.list ds] => some (.own none ds)
  | .list, [.tuple ds] => some (.own none ds)
  | .max, [.int i, .int j] => some (.val (.int (if j > i then j else i)))
  | .min, [.int i, .int j] => some (.val (.int (if j < i then j else i)))
  | .sum, [.list ds] => (intsOf ds).map fun ns => .val (.int ns.sum)
  | .all, [.list ds] => (boolsOf ds).map fun bs => .val (.bool (bs.all id))
  | .repr, [d] => @ite _ (d.showable = true ∧ d.hasDict = false ∧ d.shown.length ≤ sizeLine ∧ d.depth ≤ 100) (Classical.propDecidable _) (some (.val (.str d.shown))) none
  | _, _ => none
def strsOf : List PD → Option (List Str)
  | [] => some []
  | .str x :: r => (strsOf r).map fun l => x :: l
  | _ => none
/-- a text's methods -/
noncomputable def mtD : Mt → Str → List PD → Option Slo
  | .find, a, [.str b] => some (.val (.int (Txt.find a b)))
  | .find, a, [.str b, .int i] => some (.val (.int (Txt.find3 a b i)))
  | .split, a, [.str b] => @ite _ ((b.length == 0) = false ∧ a.length + 2 ≤ sizeLine) (Classical.propDecidable _) (some (.own none ((Txt.split a b).map PyData.str))) none
  | .join, a, [.list ds] => match strsOf ds with
    | some ys => @ite _ ((ys.map (·.length)).sum + ys.length * a.length ≤ 16777216) (Classical.propDecidable _) (some (.val (.str (Txt.join a ys)))) none
    | none => none
  | .join, a, [.tuple ds] => match strsOf ds with
    | some ys => @ite _ ((ys.map (·.length)).sum + ys.length * a.length ≤ 16777216) (Classical.propDecidable _) (some (.val (.str (Txt.join a ys)))) none
    | none => none
  | _, _, _ => none
def tyOk : Ty → PD → Bool
  | .int, .int _ | .int, .bool _ | .str, .str _ | .bool, .bool _ | .tuple, .tuple _ | .list, .list _ => true
  | _, _ => false
def isiD (ts : List Ty) : PD → Option Bool
  | .dict _ => none
  | d => some (ts.any fun t => tyOk t d)

structure Cfg where
  fn : Nat → DEn → Option (Slo × DEn)
  gl : Nat → Option PD

def opdOf (m : Bool) (e : Ir) (f : DEn → Option (Slo × DEn)) (ρ : DEn) : Option (Opd × DEn) :=
  match m, e with
  | _, .lend i => match ρ[i]? with
    | some (.own _ _) => some (.slot i, ρ)
    | _ => none
  | true, .var i => match ρ[i]? with
    | some .un => none
    | none => none
    | _ => some (.slot i, ρ)
  | true, _ => match f ρ with
    | some (r, ρ1) => some (.res r, ρ1)
    | none => none
  | false, _ => match f ρ with
    | some (r, ρ1) => match frz r with
      | some d => some (.res (.val d), ρ1)
      | none => none
    | none => none
/-- a value stored to a target -/
def asgs : Ir → List PD → DEn → Option DEn
  | .nil, [], ρ => some ρ
  | .cons (.var i) r, d :: ds, ρ => if i < ρ.length then asgs r ds (ρ.set i (.val d)) else none
  | _, _, _ => none
def asg : Ir → PD → DEn → Option DEn
  | .var i, d, ρ => if i < ρ.length then some (ρ.set i (.val d)) else none
  | .tup es, .tuple ds, ρ => asgs es ds ρ
  | .tup es, .list ds, ρ => asgs es ds ρ
  | _, _, _ => none
def seqD : PD → Option (List PD)
  | .list ds => some ds
  | .tuple ds => some ds
  | _ => none
/-- what a for walks -/
def itD : PD → Option (List PD)
  | .list ds => some ds
  | .tuple ds => some ds
  | .str z => some (z.cps.toList.map fun c => .str ⟨#[c]⟩)
  | _ => none
noncomputable def rngD (lo hi : Int) : Option (List PD) :=
  @ite _ (-(2 ^ 62) ≤ lo ∧ lo < 2 ^ 62 ∧ -(2 ^ 62) ≤ hi ∧ hi < 2 ^ 62) (Classical.propDecidable _) (some ((List.range (hi - lo).toNat).map fun (k : Nat) => .int (lo + (k : Int)))) none
/-- a comprehension's block sees values alone -/
def blk1 : Slo → Slo
  | .val d => .val d
  | _ => .un
def wipeD (ρ : DEn) : List Nat → DEn
  | [] => ρ
  | v :: vs => (wipeD ρ vs).set v .un
def blkD (ρ : DEn) (vs : List Nat) : DEn := wipeD (ρ.map blk1) vs
def truS : Slo → Option Bool
  | .val (.bool b) => some b
  | _ => none
def compL (t : Ir) (c e : DEn → Option (Slo × DEn)) (ρ : DEn) : List PD → List PD → Option (List PD)
  | [], acc => some acc
  | d :: ds, acc => match asg t d ρ with
    | none => none
    | some ρ1 => match c ρ1 with
      | some (.val (.bool true), ρ2) => match e ρ2 with
        | some (r, _) => match frz r with
          | some x => if acc.length < sizeLine then compL t c e ρ ds (acc ++ [x]) else none
          | none => none
        | none => none
      | some (.val (.bool false), _) => compL t c e ρ ds acc
      | _ => none
def valsOf : List Opd → Option (List PD)
  | [] => some []
  | .res (.val d) :: r => match valsOf r with
    | some ds => some (d :: ds)
    | none => none
  | _ => none
/-- a call's arguments -/
def argsOf (ρ : DEn) : List Opd → Option DEn
  | [] => some []
  | .res (.val d) :: r => match argsOf ρ r with
    | some as => some (.val d :: as)
    | none => none
  | .slot i :: r => match ρ[i]?, argsOf ρ r with
    | some (.own _ ds), some as => some (.own none ds :: as)
    | _, _ => none
  | _ => none
def slotsOf : List Opd → List Nat
  | [] => []
  | .slot i :: r => i :: slotsOf r
  | _ :: r => slotsOf r
/-- what a call has made of the lists that were lent -/
def putBack (ρ : DEn) : List Opd → DEn → Option DEn
  | [], [] => some ρ
  | .res _ :: r, _ :: os => putBack ρ r os
  | .slot i :: r, .own _ ds :: os => match ρ[i]? with
    | some (.own p _) => putBack (ρ.set i (.own p ds)) r os
    | _ => none
  | _, _ => none
def optI : Option PD → Option (Option Int)
  | some (.int i) => some (some i)
  | _ => none
def plain : Slo → Slo
  | .own _ ds => .own none ds
  | r => r

mutual
noncomputable def evX (C : Cfg) : Ir → DEn → Option (Slo × DEn)
  | .var i, ρ => match ρ[i]? with
    | some (.val d) => some (.val d, ρ)
    | some (.own _ ds) => some (.val (.list ds), ρ.set i (.val (.list ds)))
    | _ => none
  | .non, ρ => some (.val .none, ρ)
  | .bl b, ρ => some (.val (.bool b), ρ)
  | .int i, ρ => some (.val (.int i), ρ)
  | .str x, ρ => some (.val (.str x), ρ)
  | .glb g, ρ => match C.gl g with
    | some d => some (.val d, ρ)
    | none => none
  | .bin o a b, ρ => match opdOf true a (evX C a) ρ with
    | none => none
    | some (x, ρ1) => match opdOf true b (evX C b) ρ1 with
      | none => none
      | some (y, ρ2) => match rdO ρ2 x, rdO ρ2 y with
        | some d, some e => match bopD o d e with
          | some r => some (r, ρ2)
          | none => none
        | _, _ => none
  | .neg a, ρ => match evX C a ρ with
    | some (.val (.int i), ρ1) => some (.val (.int (-i)), ρ1)
    | _ => none
  | .not a, ρ => match evX C a ρ with
    | some (.val (.bool b), ρ1) => some (.val (.bool (!b)), ρ1)
    | _ => none
  | .cmp o a b, ρ => match opdOf true a (evX C a) ρ with
    | none => none
    | some (x, ρ1) => match opdOf true b (evX C b) ρ1 with
      | none => none
      | some (y, ρ2) => match rdO ρ2 x, rdO ρ2 y with
        | some d, some e => match copD o d e with
          | some r => some (.val (.bool r), ρ2)
          | none => none
        | _, _ => none
  | .chain o p a b c, ρ => match opdOf true a (evX C a) ρ with
    | none => none
    | some (x, ρ1) => match opdOf true b (evX C b) ρ1 with
      | none => none
      | some (y, ρ2) => match rdO ρ2 x, rdO ρ2 y with
        | some d, some e => match copD o d e with
          | some false => some (.val (.bool false), ρ2)
          | some true => match opdOf true c (evX C c) ρ2 with
            | none => none
            | some (z, ρ3) => match rdO ρ3 y, rdO ρ3 z with
              | some e', some f => match copD p e' f with
                | some r => some (.val (.bool r), ρ3)
                | none => none
              | _, _ => none
          | none => none
        | _, _ => none
  | .and a b, ρ => match evX C a ρ with
    | some (.val (.bool true), ρ1) => evX C b ρ1
    | some (.val (.bool false), ρ1) => some (.val (.bool false), ρ1)
    | _ => none
  | .or a b, ρ => match evX C a ρ with
    | some (.val (.bool false), ρ1) => evX C b ρ1
    | some (.val (.bool true), ρ1) => some (.val (.bool true), ρ1)
    | _ => none
  | .ife c a b, ρ => match evX C c ρ with
    | some (.val (.bool true), ρ1) => evX C a ρ1
    | some (.val (.bool false), ρ1) => evX C b ρ1
    | _ => none
  | .sub a b, ρ => match opdOf true a (evX C a) ρ with
    | none => none
    | some (x, ρ1) => match opdOf true b (evX C b) ρ1 with
      | none => none
      | some (y, ρ2) => match rdO ρ2 x, rdO ρ2 y with
        | some d, some e => match subD d e with
          | some r => some (.val r, ρ2)
          | none => none
        | _, _ => none
  | .slc a lo hi, ρ => match opdOf true a (evX C a) ρ with
    | none => none
    | some (x, ρ1) => match evP C lo ρ1 with
      | none => none
      | some (l, ρ2) => match evP C hi ρ2 with
        | none => none
        | some (h, ρ3) => match rdO ρ3 x with
          | some d => match slD d l h with
            | some r => some (r, ρ3)
            | none => none
          | none => none
  | .rev a, ρ => match opdOf true a (evX C a) ρ with
    | none => none
    | some (x, ρ1) => match rdO ρ1 x with
      | some (.list ds) => some (.own none ds.reverse, ρ1)
      | _ => none
  | .tup es, ρ => match evL C false es ρ with
    | none => none
    | some (xs, ρ1) => match valsOf xs with
      | some ds => if ds.length ≤ sizeLine then some (.val (.tuple ds), ρ1) else none
      | none => none
  | .lst es, ρ => match evL C false es ρ with
    | none => none
    | some (xs, ρ1) => match valsOf xs with
      | some ds => if ds.length ≤ sizeLine then some (.own none ds, ρ1) else none
      | none => none
  | .call f es, ρ => match evL C false es ρ with
    | none => none
    | some (xs, ρ1) => if (slotsOf xs).Nodup then match argsOf ρ1 xs with
        | none => none
        | some as => match C.fn f as with
          | none => none
          | some (r, os) => match putBack ρ1 xs os with
            | some ρ2 => some (r, ρ2)
            | none => none
      else none
  | .prim p es, ρ => match evL C true es ρ with
    | none => none
    | some (xs, ρ1) => match rdAll ρ1 xs with
      | none => none
      | some ds => match prD p ds with
        | some r => some (r, ρ1)
        | none => none
  | .isi ts a, ρ => match opdOf true a (evX C a) ρ with
    | none => none
    | some (x, ρ1) => match rdO ρ1 x with
      | none => none
      | some d => match isiD ts d with
        | some b => some (.val (.bool b), ρ1)
        | none => none
  | .comp t it c e vs, ρ => match evI C true it ρ with
    | none => none
    | some (ds, ρ1) => match compL t (evX C c) (evX C e) (blkD ρ1 vs) ds [] with
      | some acc => some (.own none acc, ρ1)
      | none => none
  | .app i e, ρ => match ρ[i]? with
    | some (.own _ _) => match opdOf false e (evX C e) ρ with
      | some (.res (.val d), ρ1) => match ρ1[i]? with
        | some (.own p ds) => if ds.length < sizeLine then some (.val .none, ρ1.set i (.own p (ds ++ [d]))) else none
        | _ => none
      | _ => none
    | _ => none
  | .ext i e, ρ => match ρ[i]? with
    | some (.own _ _) => match opdOf false e (evX C e) ρ with
      | some (.res (.val d), ρ1) => match ρ1[i]? with
        | some (.own p ds) => match seqD d with
          | some es => if ds.length + es.length ≤ sizeLine then some (.val .none, ρ1.set i (.own p (ds ++ es))) else none
          | none => none
        | _ => none
      | _ => none
    | _ => none
  | .pop i, ρ => match ρ[i]? with
    | some (.own p ds) => match ds[ds.length - 1]? with
      | some d => some (.val d, ρ.set i (.own p ds.dropLast))
      | none => none
    | _ => none
  | .clr i, ρ => match ρ[i]? with
    | some (.own p _) => some (.val .none, ρ.set i (.own p []))
    | _ => none
  | .meth m a es, ρ => match opdOf true a (evX C a) ρ with
    | none => none
    | some (x, ρ1) => match rdO ρ1 x with
      | some (.str z) => match evL C true es ρ1 with
        | none => none
        | some (xs, ρ2) => match rdAll ρ2 xs with
          | none => none
          | some ds => match mtD m z ds with
            | some r => some (r, ρ2)
            | none => none
      | _ => none
  | _, _ => none
noncomputable def evP (C : Cfg) : Ir → DEn → Option (Option Int × DEn)
  | .nil, ρ => some (none, ρ)
  | .cons a _, ρ => match evX C a ρ with
    | some (.val (.int i), ρ1) => some (some i, ρ1)
    | _ => none
  | _, _ => none
noncomputable def evL (C : Cfg) (m : Bool) : Ir → DEn → Option (List Opd × DEn)
  | .nil, ρ => some ([], ρ)
  | .cons a r, ρ => match opdOf m a (evX C a) ρ with
    | none => none
    | some (x, ρ1) => match evL C m r ρ1 with
      | none => none
      | some (xs, ρ2) => some (x :: xs, ρ2)
  | _, _ => none
noncomputable def evI (C : Cfg) (m : Bool) : Ir → DEn → Option (List PD × DEn)
  | .rng1 a, ρ => match evX C a ρ with
    | some (.val (.int j), ρ1) => match rngD 0 j with
      | some ds => some (ds, ρ1)
      | none => none
    | _ => none
  | .rng2 a b, ρ => match evX C a ρ with
    | some (.val (.int i), ρ1) => match evX C b ρ1 with
      | some (.val (.int j), ρ2) => match rngD i j with
        | some ds => some (ds, ρ2)
        | none => none
      | _ => none
    | _ => none
  | .cons a _, ρ => match opdOf m a (evX C a) ρ with
    | none => none
    | some (x, ρ1) => match rdO ρ1 x with
      | none => none
      | some d => match itD d with
        | some ds => some (ds, ρ1)
        | none => none
  | _, _ => none
end

inductive Out where
  | nx (ρ : DEn) | bk (ρ : DEn) | ct (ρ : DEn) | rt (r : Slo) (ρ : DEn)
def whileL (c : DEn → Option (Slo × DEn)) (b : DEn → Option Out) : Nat → DEn → Option Out
  | 0, _ => none
  | n + 1, ρ => match c ρ with
    | some (.val (.bool true), ρ1) => match b ρ1 with
      | some (.nx ρ2) => whileL c b n ρ2
      | some (.ct ρ2) => whileL c b n ρ2
      | some (.bk ρ2) => some (.nx ρ2)
      | some (.rt r ρ2) => some (.rt r ρ2)
      | none => none
    | some (.val (.bool false), ρ1) => some (.nx ρ1)
    | _ => none
def forL (t : Ir) (b : DEn → Option Out) : List PD → DEn → Option Out
  | [], ρ => some (.nx ρ)
  | d :: ds, ρ => match asg t d ρ with
    | none => none
    | some ρ1 => match b ρ1 with
      | some (.nx ρ2) => forL t b ds ρ2
      | some (.ct ρ2) => forL t b ds ρ2
      | some (.bk ρ2) => some (.nx ρ2)
      | some (.rt r ρ2) => some (.rt r ρ2)
      | none => none
def wfuel : Nat := 1000000
noncomputable def evS (C : Cfg) : Ir → DEn → Option Out
  | .nil, ρ => some (.nx ρ)
  | .cons a b, ρ => match evS C a ρ with
    | some (.nx ρ1) => evS C b ρ1
    | o => o
  | .set i keep e, ρ => match evX C e ρ with
    | none => none
    | some (r, ρ1) => if i < ρ1.length then
        match keep with
        | true => match r with
          | .own _ ds => some (.nx (ρ1.set i (.own none ds)))
          | _ => none
        | false => match frz r with
          | some d => some (.nx (ρ1.set i (.val d)))
          | none => none
      else none
  | .aug i pl e, ρ => match ρ[i]? with
    | some (.val (.int a)) => match evX C e ρ with
      | some (.val (.int b), ρ1) => if i < ρ1.length then some (.nx (ρ1.set i (.val (.int (cond pl (a + b) (a - b)))))) else none
      | _ => none
    | _ => none
  | .unp t e, ρ => match evX C e ρ with
    | none => none
    | some (r, ρ1) => match frz r with
      | none => none
      | some d => match asg t d ρ1 with
        | some ρ2 => some (.nx ρ2)
        | none => none
  | .sti i ix e, ρ => match evX C e ρ with
    | none => none
    | some (r, ρ1) => match frz r with
      | none => none
      | some d => match ρ1[i]? with
        | some (.own _ _) => match evX C ix ρ1 with
          | some (.val (.int k), ρ2) => match ρ2[i]? with
            | some (.own p ds) => match ixN ds.length k with
              | some j => some (.nx (ρ2.set i (.own p (ds.set j d))))
              | none => none
            | _ => none
          | _ => none
        | _ => none
  | .ex e, ρ => match evX C e ρ with
    | some (_, ρ1) => some (.nx ρ1)
    | none => none
  | .ifs c a b, ρ => match evX C c ρ with
    | some (.val (.bool true), ρ1) => evS C a ρ1
    | some (.val (.bool false), ρ1) => evS C b ρ1
    | _ => none
  | .whl c b, ρ => whileL (evX C c) (evS C b) wfuel ρ
  | .fors t it b, ρ => match evI C false it ρ with
    | none => none
    | some (ds, ρ1) => forL t (evS C b) ds ρ1
  | .ret e, ρ => match e with
    | .var i => match ρ[i]? with
      | some (.own none ds) => some (.rt (.own none ds) (ρ.set i .un))
      | some (.val d) => some (.rt (.val d) ρ)
      | _ => none
    | _ => match evX C e ρ with
      | some (r, ρ1) => some (.rt r ρ1)
      | none => none
  | .brk, ρ => some (.bk ρ)
  | .cnt, ρ => some (.ct ρ)
  | .pas, ρ => some (.nx ρ)
  | _, _ => none

/-- a def: its body at its arguments -/
def tagA (as : DEn) : DEn := as.mapIdx fun i s => match s with
  | .own _ ds => .own (some i) ds
  | s => s
def outsA (ρ : DEn) : Nat → DEn → Option DEn
  | _, [] => some []
  | i, .own _ _ :: r => match ρ[i]?, outsA ρ (i + 1) r with
    | some (.own (some j) ds), some os => if i = j then some (.own none ds :: os) else none
    | _, _ => none
  | i, _ :: r => match outsA ρ (i + 1) r with
    | some os => some (.un :: os)
    | none => none
noncomputable def runF (C : Cfg) (np n : Nat) (body : Ir) (as : DEn) : Option (Slo × DEn) :=
  if as.length = np then
    match evS C body (tagA as ++ List.replicate (n - np) .un) with
    | some (.nx ρ) => match outsA ρ 0 as with
      | some os => some (.val .none, os)
      | none => none
    | some (.rt r ρ) => match outsA ρ 0 as with
      | some os => some (r, os)
      | none => none
    | _ => none
  else none
end Dv

set_option Elab.async false
set_option linter.all false
set_option maxRecDepth 100000
set_option maxHeartbeats 4000000
/-! the small language's value is what the text does: expressions -/
namespace Dv
open PySem PySem.Spec PyProof.Rows L2

def RepO (K : PySem.W.Frag) (F H : Hp) (σ : L2.St) (v : V) : Opd → Prop
  | .slot i => σ[i]? = some (some v)
  | .res r => RepS K F H v r
def OwnO (x : Opd) (v : V) (b : Addr) : Prop := ∃ r, x = .res r ∧ OwnV r v b
structure AftI (K : PySem.W.Frag) (α : Nat → Addr) (O : Addr → Prop) (F H : Hp) (σ : L2.St) (ρ' : DEn) (x : Opd) (v : V) (F' H' : Hp) : Prop where
  er : ER K α F' H' ρ' σ
  rep : RepO K F' H' σ v x
  dist : ∀ b, OwnO x v b → ¬ OwnA ρ' σ b
  st : Stp O (OwnA ρ' σ) F H F' H'
section
variable (K : PySem.W.Frag) (C : Cfg)
/-- the readings -/
def tX (ir : Ir) : TE := fun σ H Q => ∃ α F ρ r ρ', ER K α F H ρ σ ∧ evX C ir ρ = some (r, ρ') ∧ ∀ v F' H', Aft K α (OwnA ρ σ) F H σ ρ' r v F' H' → Q v H'
def tI (m : Bool) (ir : Ir) : TE := fun σ H Q => ∃ α F ρ x ρ', ER K α F H ρ σ ∧ opdOf m ir (evX C ir) ρ = some (x, ρ') ∧ ∀ v F' H', AftI K α (OwnA ρ σ) F H σ ρ' x v F' H' → Q v H'
def tT (ir : Ir) : TT := fun σ H Q => ∃ α F ρ b ρ', ER K α F H ρ σ ∧ evX C ir ρ = some (.val (.bool b), ρ') ∧ ∀ F' H', ER K α F' H' ρ' σ → Stp (OwnA ρ σ) (OwnA ρ' σ) F H F' H' → Q b H'
end
section
variable {X : Cx} {C : Cfg} {e : Expr} {ir : Ir}
theorem pe_mono {t t' : TE} (h : PE X e t) (w : ∀ σ H Q, t' σ H Q → t σ H Q) : PE X e t' := ⟨fun pins s σ H Q I q => h.run pins s σ H Q I (w σ H Q q)⟩
theorem pt_mono {t t' : TT} (h : PT X e t) (w : ∀ σ H Q, t' σ H Q → t σ H Q) : PT X e t' := ⟨fun pins s σ H Q I q => h.run pins s σ H Q I (w σ H Q q)⟩
theorem pa_mono {es : List Expr} {t t' : TA} (h : PA X es t) (w : ∀ σ H Q, t' σ H Q → t σ H Q) : PA X es t' := ⟨fun pos pins s σ H Q I q => h.run pos pins s σ H Q I (w σ H Q q)⟩

def notName : Ir → Bool
  | .var _ => false
  | .lend _ => false
  | _ => true
theorem opd_true (h : notName ir = true) (f : DEn → Option (Slo × DEn)) (ρ : DEn) : opdOf true ir f ρ = match f ρ with
    | some (r, ρ1) => some (.res r, ρ1)
    | none => none := by
  cases ir <;> first | rfl | cases h
theorem opd_false (h : notName ir = true) (f : DEn → Option (Slo × DEn)) (ρ : DEn) : opdOf false ir f ρ = match f ρ with
    | some (r, ρ1) => match frz r with
      | some d => some (.res (.val d), ρ1)
      | none => none
    | none => none := by
  cases ir <;> first | rfl | cases h
theorem AftI.of {K : PySem.W.Frag} {α : Nat → Addr} {O : Addr → Prop} {F H F' H' : Hp} {σ : L2.St} {ρ' : DEn} {r : Slo} {v : V} (A : Aft K α O F H σ ρ' r v F' H') : AftI K α O F H σ ρ' (.res r) v F' H' :=
  ⟨A.er, A.rep, fun b ⟨r', e, z⟩ => by cases e; exact A.dist b z, A.st.mono (fun _ z => z) fun _ z => .inl z⟩
/-- an operand of any form but a name -/
theorem tI_of {K : PySem.W.Frag} (m : Bool) (h : notName ir = true) {σ : L2.St} {H : Hp} {Q : VK} (q : tI K C m ir σ H Q) : tX K C ir σ H Q := by
  obtain ⟨α, F, ρ, x, ρ', E, ev, k⟩ := q
  cases m with
  | true =>
    rw [opd_true h] at ev
    split at ev
    · rename_i r ρ1 e1
      cases ev
      exact ⟨α, F, ρ, r, ρ', E, e1, fun v F' H' A => k v F' H' (.of A)⟩
    · cases ev
  | false =>
    rw [opd_false h] at ev
    split at ev
    · rename_i r ρ1 e1
      split at ev
      · rename_i d e2
        cases ev
        refine ⟨α, F, ρ, r, ρ', E, e1, fun v F' H' A => ?_⟩
        obtain ⟨F2, A2⟩ := frz_aft A e2
        exact k v F2 H' (.of A2)
      · cases ev
    · cases ev
/-- what holds of a piece of text and its word of the small language -/
def isIf : Expr → Bool
  | .IfExp _ _ _ _ => true
  | _ => false
/-- no star, no set, no slice -/
def tame : Expr → Bool
  | .Starred _ _ => false
  | .Set _ _ _ => false
  | .Slice _ _ _ _ => false
  | _ => true
structure DX (X : Cx) (C : Cfg) (e : Expr) (ir : Ir) : Prop where
  x : PE X e (tX X.K C ir)
  o : ∀ m, PE X e (tI X.K C m ir)
  t : isIf e = false → PT X e (tT X.K C ir)
  tm : tame e = true
theorem tame_star {e : Expr} (h : tame e = true) (es : List Expr) (env : PySem.Env) : starEach (e :: es) env = (false, eval e env) :: starEach es env := by
  cases e <;> first | rfl | cases h
theorem tame_marks {e : Expr} (h : tame e = true) (op : CmpOp) : behindInMarks op e = false := by
  cases e <;> first | rfl | cases h
theorem tame_ix {e : Expr} (h : tame e = true) : PlainIx e := fun o i => by
  cases e <;> first | rfl | cases h
theorem tame_fold {e : Expr} (h : tame e = true) (env : PySem.Env) (x : Value) : foldedSetIterable e env x = pure x := by
  cases e <;> first | rfl | cases h
theorem bool_rep {K : PySem.W.Frag} {F H : Hp} {v : V} {b : Bool} (h : RepS K F H v (.val (.bool b))) : v = .bl b := by
  have h' : Rp K F v (.bool b) := h
  cases h'; rfl
theorem int_rep {K : PySem.W.Frag} {F H : Hp} {v : V} {b : Int} (h : RepS K F H v (.val (.int b))) : v = .int b := by
  have h' : Rp K F v (.int b) := h
  cases h'; rfl
theorem Aft.val {K : PySem.W.Frag} {α : Nat → Addr} {O : Addr → Prop} {F H F' H' : Hp} {σ : L2.St} {ρ' : DEn} {d : PD} {v : V} (A : Aft K α O F H σ ρ' (.val d) v F' H') : Stp O (OwnA ρ' σ) F H F' H' :=
  A.st.mono (fun _ z => z) fun _ z => .inl z
theorem tT_of {K : PySem.W.Frag} {σ : L2.St} {H : Hp} {Q : Bool → Hp → Prop} (q : tT K C ir σ H Q) : tX K C ir σ H fun v H1 => ∃ c, v = .bl c ∧ Q c H1 := by
  obtain ⟨α, F, ρ, b, ρ', E, ev, k⟩ := q
  exact ⟨α, F, ρ, _, ρ', E, ev, fun v F' H' A => ⟨b, bool_rep A.rep, k F' H' A.er A.val⟩⟩
def plainT (e : Expr) : Bool := match e with
  | .UnaryOp .Not _ _ => false
  | .BoolOp _ _ _ => false
  | .IfExp _ _ _ _ => false
  | .Compare _ _ _ _ => false
  | _ => true
theorem isTrue_pl (h : plainT e = true) (env : PySem.Env) (whole : Sem Value) : isTrue e env whole = (do let v ← whole; standAt e.pos; holding [v] (truthy v)) := by
  cases e <;> first
    | rfl
    | (cases h; done)
    | (rename_i op _ _; cases op <;> first | rfl | cases h)
theorem DX.mk' (h : PE X e (tX X.K C ir)) (n : notName ir = true) (p : plainT e = true) (t : tame e = true) : DX X C e ir :=
  ⟨h, fun m => pe_mono h fun _ _ _ q => tI_of m n q, fun _ => pt_mono (pt_val h fun w => isTrue_pl p X.env w) fun _ _ _ q => tT_of q, t⟩
end
end Dv

set_option Elab.async false
set_option linter.all false
set_option maxRecDepth 100000
set_option maxHeartbeats 4000000
/-! expressions: constants, names, operators -/
namespace Dv
open PySem PySem.Spec PyProof.Rows L2
section
variable {K : PySem.W.Frag} {C : Cfg}
theorem RepO.step {O O' : Addr → Prop} {F H F' H' : Hp} {σ : L2.St} {v : V} {x : Opd} (h : RepO K F H σ v x) (n : ∀ b, OwnO x v b → ¬ O b) (s : Stp O O' F H F' H') : RepO K F' H' σ v x := by
  cases x with
  | slot i => exact h
  | res r => exact RepS.step h (fun b z => n b ⟨r, rfl, z⟩) s
theorem view_of {α : Nat → Addr} {F H : Hp} {σ : L2.St} {ρ : DEn} {v : V} {x : Opd} {d : PD} (E : ER K α F H ρ σ) (h : RepO K F H σ v x) (r : rdO ρ x = some d) : Vp K F H v d := by
  cases x with
  | slot i =>
    have h' : σ[i]? = some (some v) := h
    have r' : rdS ρ[i]? = some d := r
    cases e : ρ[i]? with
    | none => rw [e] at r'; cases r'
    | some t =>
      rw [e] at r'
      cases t with
      | un => cases r'
      | val d' =>
        cases r'
        obtain ⟨w, h1, h2⟩ := E.val i _ e
        rw [h'] at h1; cases h1
        exact .inl h2
      | own p ds =>
        cases r'
        obtain ⟨a, xs, h1, h2, _, h4, _⟩ := E.own i p ds e
        rw [h'] at h1; cases h1
        exact .inr ⟨a, xs, ds, rfl, rfl, h2, h4⟩
  | res r0 =>
    have r' : rdS (some r0) = some d := r
    cases r0 with
    | un => cases r'
    | val d' => cases r'; exact .inl h
    | own p ds =>
      cases r'
      obtain ⟨a, xs, e, h2, _, h4⟩ := (show RepS K F H v (.own p ds) from h)
      exact .inr ⟨a, xs, ds, e, rfl, h2, h4⟩
theorem pairI {α : Nat → Addr} {F H : Hp} {σ : L2.St} {ρ ρ1 ρ2 : DEn} {a b : Ir} {x y : Opd} (E : ER K α F H ρ σ) (ha : opdOf true a (evX C a) ρ = some (x, ρ1)) (hb : opdOf true b (evX C b) ρ1 = some (y, ρ2)) {P : V → V → Hp → Prop}
    (k : ∀ v u F' H', ER K α F' H' ρ2 σ → RepO K F' H' σ v x → RepO K F' H' σ u y → (∀ b, OwnO y u b → ¬ OwnA ρ2 σ b) → Stp (OwnA ρ σ) (OwnA ρ2 σ) F H F' H' → P v u H') : tI K C true a σ H fun v H1 => tI K C true b σ H1 fun u H2 => P v u H2 :=
  ⟨α, F, ρ, x, ρ1, E, ha, fun v F1 H1 A => ⟨α, F1, ρ1, y, ρ2, A.er, hb, fun u F2 H2 B => k v u F2 H2 B.er (A.rep.step A.dist B.st) B.rep B.dist (A.st.trans B.st)⟩⟩
/-- a rule on values by data -/
def rB (K : PySem.W.Frag) (g : PD → PD → Option Slo) : R2 := fun x y H Q => ∃ F d e r, Same F H ∧ Vp K F H x d ∧ Vp K F H y e ∧ g d e = some r ∧ ∀ z F' H', Made K F H r z F' H' → Q z H'
def rC (K : PySem.W.Frag) (g : PD → PD → Option Bool) : R2 := fun x y H Q => ∃ F d e b, Same F H ∧ Vp K F H x d ∧ Vp K F H y e ∧ g d e = some b ∧ Q (.bl b) H
end
section
variable {X : Cx} {C : Cfg} {a b c : Expr} {ia ib ic : Ir} {pos : Pos}
theorem opr_of {f : Value → Value → Sem Value} {g : PD → PD → Option Slo} (h : OpD X f g) : OpR X f (rB X.K g) := fun pins s σ H x y v u Q I rx ry ⟨F, d, e, r, sm, vd, ve, hg, q⟩ =>
  h pins s σ H x y v u Q F d e r I rx ry sm vd ve hg q
theorem cpr_of {f : Value → Value → Sem Value} {g : PD → PD → Option Bool} (h : CpD X f g) : OpR X f (rC X.K g) := fun pins s σ H x y v u Q I rx ry ⟨F, d, e, r, sm, vd, ve, hg, q⟩ =>
  h pins s σ H x y v u Q F d e r I rx ry sm vd ve hg q

theorem dx_const {v : V} {d : PD} (h : PE X a (tC v)) (r : ∀ F, Rp X.K F v d) (ev : ∀ ρ, evX C ia ρ = some (.val d, ρ)) (n : notName ia = true) (p : plainT a = true) (t : tame a = true) : DX X C a ia := by
  refine .mk' (pe_mono h fun σ H Q q => ?_) n p t
  obtain ⟨α, F, ρ, r', ρ', E, e, k⟩ := q
  rw [ev] at e; cases e
  exact k v F H (.of_made E (made_same E.sub (r F)))
theorem dx_int {i j} : DX X C (.Constant (.int i) j pos) (.int i) := dx_const pe_int (fun _ => .int i) (fun _ => by simp [evX]) rfl rfl rfl
theorem dx_bl {i j} : DX X C (.Constant (.bool i) j pos) (.bl i) := dx_const pe_bl (fun _ => .bl i) (fun _ => by simp [evX]) rfl rfl rfl
theorem dx_non {j} : DX X C (.Constant .none j pos) .non := dx_const pe_non (fun _ => .non) (fun _ => by simp [evX]) rfl rfl rfl
theorem dx_str {i j} : DX X C (.Constant (.str i) j pos) (.str i) := dx_const pe_str (fun _ => .str i) (fun _ => by simp [evX]) rfl rfl rfl

theorem ER.freeze {K : PySem.W.Frag} {α : Nat → Addr} {F H : Hp} {ρ : DEn} {σ : L2.St} {i : Nat} {p : Option Nat} {ds : List PD} (E : ER K α F H ρ σ) (h : ρ[i]? = some (Slo.own p ds)) :
    ∃ v F', σ[i]? = some (some v) ∧ Aft K α (OwnA ρ σ) F H σ (ρ.set i (.val (.list ds))) (.val (.list ds)) v F' H := by
  obtain ⟨a, xs, h1, h2, h3, h4, _⟩ := E.own i p ds h
  have hi : i < ρ.length := (List.getElem?_eq_some_iff.mp h).1
  have ex : Same F (upd F a (.lst xs)) := same_upd h3
  have hr : Rp K (upd F a (.lst xs)) (.ref a) (.list ds) := .lst (.of upd_same) (rpAll_mono ex _ _ h4)
  have sub : Same (upd F a (.lst xs)) H := fun b o e => by
    by_cases c : b = a
    · subst c; rw [upd_same] at e; rw [← e]; exact h2
    · rw [upd_ne c] at e; exact E.sub b o e
  have hin : ∀ (j : Nat) (q : Option Nat) (es : List PD), (ρ.set i (.val (.list ds)))[j]? = some (Slo.own q es) → j ≠ i ∧ ρ[j]? = some (Slo.own q es) := fun j q es e => by
    by_cases c : j = i
    · subst c; rw [List.getElem?_set_self hi] at e; cases e
    · rw [List.getElem?_set_ne (Ne.symm c)] at e; exact ⟨c, e⟩
  refine ⟨.ref a, upd F a (.lst xs), h1, ⟨sub, by rw [List.length_set]; exact E.len, fun j d e => ?_, fun j q es e => ?_, fun j k q q' es es' n e1 e2 => E.inj j k q q' es es' n (hin _ _ _ e1).2 (hin _ _ _ e2).2⟩, hr, fun b z => absurd z ownV_val, ex, fun b o e _ => e, fun b o e n f => ?_, fun b z => ?_, fun b o e => ⟨o, e⟩⟩
  · by_cases c : j = i
    · subst c
      rw [List.getElem?_set_self hi] at e
      cases e
      exact ⟨.ref a, h1, hr⟩
    · rw [List.getElem?_set_ne (Ne.symm c)] at e
      obtain ⟨w, k1, k2⟩ := E.val j d e
      exact ⟨w, k1, rp_mono ex _ _ k2⟩
  · obtain ⟨c, e'⟩ := hin _ _ _ e
    obtain ⟨a', xs', k1, k2, k3, k4, k5⟩ := E.own j q es e'
    refine ⟨a', xs', k1, k2, ?_, rpAll_mono ex _ _ k4, k5⟩
    rw [upd_ne]
    · exact k3
    · rintro rfl
      exact E.inj j i q p es ds c e' h (by rw [k1, h1])
  · rw [upd_ne]
    · exact f
    · rintro rfl
      exact n ⟨i, p, ds, h, h1⟩
  · rcases z with ⟨j, q, es, e1, e2⟩ | z
    · exact .inl ⟨j, q, es, (hin _ _ _ e1).2, e2⟩
    · exact absurd z ownV_val
theorem dx_var {i : Nat} {x : Str} (h : PE X (.Name x pos) (tVar i)) : DX X C (.Name x pos) (.var i) := by
  have hx : PE X (.Name x pos) (tX X.K C (.var i)) := by
    refine pe_mono h fun σ H Q q => ?_
    obtain ⟨α, F, ρ, r, ρ', E, ev, k⟩ := q
    simp only [evX] at ev
    split at ev
    · rename_i d e
      cases ev
      obtain ⟨v, h1, h2⟩ := E.val i d e
      exact ⟨v, h1, k v F H (.of_made E (made_same E.sub h2))⟩
    · rename_i p ds e
      cases ev
      obtain ⟨v, F', h1, A⟩ := E.freeze e
      exact ⟨v, h1, k v F' H A⟩
    · cases ev
  refine ⟨hx, fun m => ?_, fun _ => pt_mono (pt_val hx fun w => rfl) fun _ _ _ q => tT_of q, rfl⟩
  cases m with
  | true =>
    refine pe_mono h fun σ H Q q => ?_
    obtain ⟨α, F, ρ, y, ρ', E, ev, k⟩ := q
    have fin : ∀ v, σ[i]? = some (some v) → AftI X.K α (OwnA ρ σ) F H σ ρ (.slot i) v F H := fun v hv => ⟨E, hv, (fun b ⟨_, z, _⟩ => nomatch z), .refl⟩
    unfold opdOf at ev
    simp only at ev
    split at ev
    · cases ev
    · cases ev
    · rename_i t n1 n2
      cases ev
      cases e : ρ[i]? with
      | none => exact absurd e n2
      | some t =>
        cases t with
        | un => exact absurd e n1
        | val d =>
          obtain ⟨v, h1, _⟩ := E.val i d e
          exact ⟨v, h1, k v F H (fin v h1)⟩
        | own p ds =>
          obtain ⟨a, xs, h1, _⟩ := E.own i p ds e
          exact ⟨_, h1, k _ F H (fin _ h1)⟩
  | false =>
    refine pe_mono hx fun σ H Q q => ?_
    obtain ⟨α, F, ρ, y, ρ', E, ev, k⟩ := q
    unfold opdOf at ev
    simp only at ev
    split at ev
    · rename_i r ρ1 e1
      split at ev
      · rename_i d e2
        cases ev
        refine ⟨α, F, ρ, r, ρ', E, e1, fun v F' H' A => ?_⟩
        obtain ⟨F2, A2⟩ := frz_aft A e2
        exact k v F2 H' (.of A2)
      · cases ev
    · cases ev
/-- a list that is lent -/
theorem pe_lend {i : Nat} {x : Str} (m : Bool) (h : PE X (.Name x pos) (tVar i)) : PE X (.Name x pos) (tI X.K C m (.lend i)) := by
  refine pe_mono h fun σ H Q q => ?_
  obtain ⟨α, F, ρ, y, ρ', E, ev, k⟩ := q
  have ev' : (match ρ[i]? with | some (Slo.own _ _) => some (Opd.slot i, ρ) | _ => none) = some (y, ρ') := by
    cases m <;> exact ev
  split at ev'
  · rename_i p ds e
    cases ev'
    obtain ⟨a, xs, h1, _⟩ := E.own i p ds e
    exact ⟨_, h1, k _ F H ⟨E, h1, (fun b ⟨_, z, _⟩ => nomatch z), .refl⟩⟩
  · cases ev'

theorem dx_bin {op : Operator} {o : Bop} (ho : bopOf op = some o) (ha : DX X C a ia) (hb : DX X C b ib) : DX X C (.BinOp a op b pos) (.bin o ia ib) := by
  refine .mk' (pe_mono (pe_op (opr_of (opd_of ho)) (ha.o true) (hb.o true)) fun σ H Q q => ?_) rfl rfl rfl
  obtain ⟨α, F, ρ, r, ρ', E, ev, k⟩ := q
  simp only [evX] at ev
  split at ev
  · cases ev
  · rename_i x ρ1 e1
    split at ev
    · cases ev
    · rename_i y ρ2 e2
      split at ev
      · rename_i d e f1 f2
        split at ev
        · rename_i r' f3
          cases ev
          exact pairI E e1 e2 fun v u F' H' E2 r1 r2 _ st => ⟨F', d, e, r, E2.sub, view_of E2 r1 f1, view_of E2 r2 f2, f3, fun z F2 H2 M => k z F2 H2 (.after st (.of_made E2 M))⟩
        · cases ev
      · cases ev
theorem dx_cmp {op : CmpOp} {o : Cop} (ho : copOf op = some o) (hu : X.A.units + 64 < cLine) (ha : DX X C a ia) (hb : DX X C b ib) : DX X C (.Compare a [op] [b] pos) (.cmp o ia ib) := by
  have hm := tame_marks hb.tm op
  have go : ∀ (σ : L2.St) (H : Hp) (Q : VK), tX X.K C (.cmp o ia ib) σ H Q → tOp (rC X.K (copD o)) (tI X.K C true ia) (tI X.K C true ib) σ H Q := fun σ H Q q => by
    obtain ⟨α, F, ρ, r, ρ', E, ev, k⟩ := q
    simp only [evX] at ev
    split at ev
    · cases ev
    · rename_i x ρ1 e1
      split at ev
      · cases ev
      · rename_i y ρ2 e2
        split at ev
        · rename_i d e f1 f2
          split at ev
          · rename_i r' f3
            cases ev
            exact pairI E e1 e2 fun v u F' H' E2 r1 r2 _ st => ⟨F', d, e, r', E2.sub, view_of E2 r1 f1, view_of E2 r2 f2, f3, k _ F' H' (.after st (.of_made E2 (made_same E2.sub (.bl _))))⟩
          · cases ev
        · cases ev
  have hx : PE X (.Compare a [op] [b] pos) (tX X.K C (.cmp o ia ib)) := pe_mono (pe_cmpR (cpr_of (cpd_of ho hu)) (ha.o true) (hb.o true) hm) go
  exact ⟨hx, fun m => pe_mono hx fun _ _ _ q => tI_of m rfl q, fun _ => pt_mono (pt_cmpR (cpr_of (cpd_of ho hu)) (ha.o true) (hb.o true) hm) fun σ H Q q => go σ H _ (tT_of q), rfl⟩
end
end Dv

set_option Elab.async false
set_option linter.all false
set_option maxRecDepth 100000
set_option maxHeartbeats 4000000
/-! expressions: and, or, not, chains, parts, displays -/
namespace Dv
open PySem PySem.Spec PyProof.Rows L2
section
variable {X : Cx} {C : Cfg} {a b c : Expr} {ia ib ic : Ir} {pos : Pos}
theorem dx_neg (ha : DX X C a ia) : DX X C (.UnaryOp .USub a pos) (.neg ia) := by
  refine .mk' (pe_mono (pe_un un_neg ha.x) fun σ H Q q => ?_) rfl rfl rfl
  obtain ⟨α, F, ρ, r, ρ', E, ev, k⟩ := q
  simp only [evX] at ev
  split at ev
  · rename_i i ρ1 e1
    cases ev
    exact ⟨α, F, ρ, _, ρ', E, e1, fun v F' H' A => ⟨i, int_rep A.rep, k _ F' H' (.after A.val (.of_made A.er (made_same A.er.sub (.int _))))⟩⟩
  · cases ev
theorem dx_not (ha : DX X C a ia) (hi : isIf a = false) : DX X C (.UnaryOp .Not a pos) (.not ia) := by
  have hx : PE X (.UnaryOp .Not a pos) (tX X.K C (.not ia)) := by
    refine pe_mono (pe_not ha.x) fun σ H Q q => ?_
    obtain ⟨α, F, ρ, r, ρ', E, ev, k⟩ := q
    simp only [evX] at ev
    split at ev
    · rename_i i ρ1 e1
      cases ev
      exact ⟨α, F, ρ, _, ρ', E, e1, fun v F' H' A => ⟨i, bool_rep A.rep, k _ F' H' (.after A.val (.of_made A.er (made_same A.er.sub (.bl _))))⟩⟩
    · cases ev
  refine ⟨hx, fun m => pe_mono hx fun _ _ _ q => tI_of m rfl q, fun _ => pt_mono (pt_not (ha.t hi)) fun σ H Q q => ?_, rfl⟩
  obtain ⟨α, F, ρ, r, ρ', E, ev, k⟩ := q
  simp only [evX] at ev
  split at ev
  · rename_i i ρ1 e1
    cases ev
    exact ⟨α, F, ρ, i, ρ', E, e1, fun F' H' E' st => k F' H' E' st⟩
  · cases ev
/-- and, or of several -/
structure DB (X : Cx) (C : Cfg) (op : BoolOp) (es : List Expr) (pos : Pos) (ir : Ir) : Prop where
  x : PE X (.BoolOp op es pos) (tX X.K C ir)
  w : PW X (.BoolOp op es pos) (tT X.K C ir)
theorem db_and1 (ha : DX X C a ia) (hi : isIf a = false) : DB X C .And [a] pos ia := ⟨pe_one ha.x, pw_and1 (ha.t hi)⟩
theorem db_or1 (ha : DX X C a ia) (hi : isIf a = false) : DB X C .Or [a] pos ia := ⟨pe_one ha.x, pw_or1 (ha.t hi)⟩
theorem db_and {rest : List Expr} (ha : DX X C a ia) (hi : isIf a = false) (hb : DB X C .And (b :: rest) pos ib) : DB X C .And (a :: b :: rest) pos (.and ia ib) := by
  refine ⟨pe_mono (pe_and ha.x hb.x) fun σ H Q q => ?_, ⟨fun wh pins s σ H Q I q => (pw_and (ha.t hi) hb.w).run wh pins s σ H Q I ?_⟩⟩
  · obtain ⟨α, F, ρ, r, ρ', E, ev, k⟩ := q
    simp only [evX] at ev
    split at ev
    · rename_i ρ1 e1
      exact ⟨α, F, ρ, _, ρ1, E, e1, fun v F' H' A => ⟨true, bool_rep A.rep, iteT ⟨α, F', ρ1, r, ρ', A.er, ev, fun v F2 H2 B => k v F2 H2 (.after A.val B)⟩⟩⟩
    · rename_i ρ1 e1
      cases ev
      exact ⟨α, F, ρ, _, ρ', E, e1, fun v F' H' A => ⟨false, bool_rep A.rep, iteF (k _ F' H' (bool_rep A.rep ▸ A))⟩⟩
    · cases ev
  · obtain ⟨α, F, ρ, r, ρ', E, ev, k⟩ := q
    simp only [evX] at ev
    split at ev
    · rename_i ρ1 e1
      exact ⟨α, F, ρ, true, ρ1, E, e1, fun F' H' E' st => iteT ⟨α, F', ρ1, r, ρ', E', ev, fun F2 H2 E2 st2 => k F2 H2 E2 (st.trans st2)⟩⟩
    · rename_i ρ1 e1
      cases ev
      exact ⟨α, F, ρ, false, ρ', E, e1, fun F' H' E' st => iteF (k F' H' E' st)⟩
    · cases ev
theorem db_or {rest : List Expr} (ha : DX X C a ia) (hi : isIf a = false) (hb : DB X C .Or (b :: rest) pos ib) : DB X C .Or (a :: b :: rest) pos (.or ia ib) := by
  refine ⟨pe_mono (pe_or ha.x hb.x) fun σ H Q q => ?_, ⟨fun wh pins s σ H Q I q => (pw_or (ha.t hi) hb.w).run wh pins s σ H Q I ?_⟩⟩
  · obtain ⟨α, F, ρ, r, ρ', E, ev, k⟩ := q
    simp only [evX] at ev
    split at ev
    · rename_i ρ1 e1
      exact ⟨α, F, ρ, _, ρ1, E, e1, fun v F' H' A => ⟨false, bool_rep A.rep, iteF ⟨α, F', ρ1, r, ρ', A.er, ev, fun v F2 H2 B => k v F2 H2 (.after A.val B)⟩⟩⟩
    · rename_i ρ1 e1
      cases ev
      exact ⟨α, F, ρ, _, ρ', E, e1, fun v F' H' A => ⟨true, bool_rep A.rep, iteT (k _ F' H' (bool_rep A.rep ▸ A))⟩⟩
    · cases ev
  · obtain ⟨α, F, ρ, r, ρ', E, ev, k⟩ := q
    simp only [evX] at ev
    split at ev
    · rename_i ρ1 e1
      exact ⟨α, F, ρ, false, ρ1, E, e1, fun F' H' E' st => iteF ⟨α, F', ρ1, r, ρ', E', ev, fun F2 H2 E2 st2 => k F2 H2 E2 (st.trans st2)⟩⟩
    · rename_i ρ1 e1
      cases ev
      exact ⟨α, F, ρ, true, ρ', E, e1, fun F' H' E' st => iteT (k F' H' E' st)⟩
    · cases ev
theorem dx_and {rest : List Expr} (h : DB X C .And (a :: b :: rest) pos (.and ia ib)) : DX X C (.BoolOp .And (a :: b :: rest) pos) (.and ia ib) :=
  ⟨h.x, fun m => pe_mono h.x fun _ _ _ q => tI_of m rfl q, fun _ => h.w.pt, rfl⟩
theorem dx_or {rest : List Expr} (h : DB X C .Or (a :: b :: rest) pos (.or ia ib)) : DX X C (.BoolOp .Or (a :: b :: rest) pos) (.or ia ib) :=
  ⟨h.x, fun m => pe_mono h.x fun _ _ _ q => tI_of m rfl q, fun _ => h.w.pt, rfl⟩
theorem dx_ife (hc : DX X C c ic) (hi : isIf c = false) (ha : DX X C a ia) (hb : DX X C b ib) : DX X C (.IfExp c a b pos) (.ife ic ia ib) := by
  have hx : PE X (.IfExp c a b pos) (tX X.K C (.ife ic ia ib)) := by
    refine pe_mono (pe_ifExp (hc.t hi) ha.x hb.x) fun σ H Q q => ?_
    obtain ⟨α, F, ρ, r, ρ', E, ev, k⟩ := q
    simp only [evX] at ev
    split at ev
    · rename_i ρ1 e1
      exact ⟨α, F, ρ, true, ρ1, E, e1, fun F' H' E' st => iteT ⟨α, F', ρ1, r, ρ', E', ev, fun v F2 H2 B => k v F2 H2 (.after st B)⟩⟩
    · rename_i ρ1 e1
      exact ⟨α, F, ρ, false, ρ1, E, e1, fun F' H' E' st => iteF ⟨α, F', ρ1, r, ρ', E', ev, fun v F2 H2 B => k v F2 H2 (.after st B)⟩⟩
    · cases ev
  exact ⟨hx, fun m => pe_mono hx fun _ _ _ q => tI_of m rfl q, (fun z => nomatch z), rfl⟩
theorem dx_chain {op op' : CmpOp} {o p : Cop} (ho : copOf op = some o) (hp : copOf op' = some p) (hu : X.A.units + 64 < cLine) (ha : DX X C a ia) (hb : DX X C b ib) (hc : DX X C c ic) :
    DX X C (.Compare a [op, op'] [b, c] pos) (.chain o p ia ib ic) := by
  have hm : lastMarks [op, op'] [b, c] = false := tame_marks hc.tm op'
  have go : ∀ (σ : L2.St) (H : Hp) (Q : VK), tX X.K C (.chain o p ia ib ic) σ H Q → tChain (rC X.K (copD o)) (rC X.K (copD p)) (tI X.K C true ia) (tI X.K C true ib) (tI X.K C true ic) σ H Q := fun σ H Q q => by
    obtain ⟨α, F, ρ, r, ρ', E, ev, k⟩ := q
    simp only [evX] at ev
    split at ev
    · cases ev
    · rename_i x ρ1 e1
      split at ev
      · cases ev
      · rename_i y ρ2 e2
        split at ev
        · rename_i d e f1 f2
          split at ev
          · rename_i f3
            cases ev
            exact pairI E e1 e2 fun v u F' H' E2 r1 r2 _ st => ⟨F', d, e, false, E2.sub, view_of E2 r1 f1, view_of E2 r2 f2, f3, false, rfl, iteF (k _ F' H' (.after st (.of_made E2 (made_same E2.sub (.bl _)))))⟩
          · rename_i f3
            split at ev
            · cases ev
            · rename_i z ρ3 e3
              split at ev
              · rename_i d' f' g1 g2
                split at ev
                · rename_i r' g3
                  cases ev
                  exact pairI E e1 e2 fun v u F' H' E2 r1 r2 d2 st => ⟨F', d, e, true, E2.sub, view_of E2 r1 f1, view_of E2 r2 f2, f3, true, rfl, iteT
                    ⟨α, F', ρ2, z, ρ', E2, e3, fun w F3 H3 B => ⟨F3, d', f', r', B.er.sub, view_of B.er (r2.step d2 B.st) g1, view_of B.er B.rep g2, g3,
                      k _ F3 H3 (.after (st.trans B.st) (.of_made B.er (made_same B.er.sub (.bl _))))⟩⟩⟩
                · cases ev
              · cases ev
          · cases ev
        · cases ev
  have hx := pe_mono (pe_chain (pos := pos) (cpr_of (cpd_of ho hu)) (cpr_of (cpd_of hp hu)) (ha.o true) (hb.o true) (hc.o true) hm) go
  exact ⟨hx, fun m => pe_mono hx fun _ _ _ q => tI_of m rfl q, fun _ => pt_mono (pt_chain (cpr_of (cpd_of ho hu)) (cpr_of (cpd_of hp hu)) (ha.o true) (hb.o true) (hc.o true) hm) fun σ H Q q => go σ H _ (tT_of q), rfl⟩

/-! ### a[b] -/
theorem atI_rp {K : PySem.W.Frag} {F : Hp} {xs : List V} {ds : List PD} {i : Int} {d : PD} (q : RpAll K F xs ds) (h : atI ds i = some d) : ∃ v, atI xs i = some v ∧ Rp K F v d := by
  unfold atI at h ⊢
  rw [rpAll_len q]
  cases e : ixN ds.length i with
  | none => rw [e] at h; cases h
  | some j =>
    rw [e] at h
    exact rpAll_get q h
theorem dx_sub (ha : DX X C a ia) (hb : DX X C b ib) : DX X C (.Subscript a b pos) (.sub ia ib) := by
  refine .mk' (pe_mono (pe_ix ix_seq (ha.o true) (hb.o true) (tame_ix hb.tm)) fun σ H Q q => ?_) rfl rfl rfl
  obtain ⟨α, F, ρ, r, ρ', E, ev, k⟩ := q
  simp only [evX] at ev
  split at ev
  · cases ev
  · rename_i x ρ1 e1
    split at ev
    · cases ev
    · rename_i y ρ2 e2
      split at ev
      · rename_i d e f1 f2
        split at ev
        · rename_i r' f3
          cases ev
          refine pairI E e1 e2 fun v u F' H' E2 r1 r2 _ st => ?_
          have w1 := view_of E2 r1 f1
          have w2 := view_of E2 r2 f2
          have fin : ∀ z, Rp X.K F' z r' → Q z H' := fun z hz => k z F' H' (.after st (.of_made E2 (made_same E2.sub hz)))
          unfold subD at f3
          split at f3
          · obtain ⟨p, xs, rfl, h1, h2⟩ := w1.list E2.sub
            obtain ⟨z, h3, h4⟩ := atI_rp h2 f3
            exact .inl ⟨p, xs, _, z, rfl, w2.int, h1.sq, h3, fin z h4⟩
          · obtain ⟨p, xs, rfl, h1, h2⟩ := w1.tuple E2.sub
            obtain ⟨z, h3, h4⟩ := atI_rp h2 f3
            exact .inr (.inl ⟨p, xs, _, z, rfl, w2.int, h1, h3, fin z h4⟩)
          · rename_i zs i
            by_cases hz : zs.length ≤ sizeLine
            · rw [if_pos hz] at f3
              cases e3 : atI zs.cps.toList i with
              | none => rw [e3] at f3; cases f3
              | some ch =>
                rw [e3] at f3
                cases f3
                exact .inr (.inr ⟨zs, i, ch, w1.str, w2.int, hz, e3, fin _ (.str _)⟩)
            · rw [if_neg hz] at f3; cases f3
          · cases f3
        · cases ev
      · cases ev
end
end Dv

set_option Elab.async false
set_option linter.all false
set_option maxRecDepth 100000
set_option maxHeartbeats 4000000
/-! expressions: slices, displays, built-in calls -/
namespace Dv
open PySem PySem.Spec PyProof.Rows L2
structure AftL (K : PySem.W.Frag) (α : Nat → Addr) (O : Addr → Prop) (F H : Hp) (σ : L2.St) (ρ' : DEn) (xs : List Opd) (vs : List V) (F' H' : Hp) : Prop where
  er : ER K α F' H' ρ' σ
  rep : Paired (fun v x => RepO K F' H' σ v x) vs xs
  st : Stp O (OwnA ρ' σ) F H F' H'
def tL (K : PySem.W.Frag) (C : Cfg) (m : Bool) (ir : Ir) : TA := fun σ H Q => ∃ α F ρ xs ρ', ER K α F H ρ σ ∧ evL C m ir ρ = some (xs, ρ') ∧ ∀ vs F' H', AftL K α (OwnA ρ σ) F H σ ρ' xs vs F' H' → Q vs H'
def tP (K : PySem.W.Frag) (C : Cfg) (ir : Ir) : TO := fun σ H Q => ∃ α F ρ l ρ', ER K α F H ρ σ ∧ evP C ir ρ = some (l, ρ') ∧ ∀ F' H', ER K α F' H' ρ' σ → Stp (OwnA ρ σ) (OwnA ρ' σ) F H F' H' → Q l H'
section
variable {X : Cx} {C : Cfg} {a b c : Expr} {ia ib ic ir : Ir} {pos : Pos} {es : List Expr}
theorem po_mono {e : Option Expr} {t t' : TO} (h : PO X e t) (w : ∀ σ H Q, t' σ H Q → t σ H Q) : PO X e t' := ⟨fun pins s σ H Q I q => h.run pins s σ H Q I (w σ H Q q)⟩
theorem dp_none : PO X none (tP X.K C .nil) := po_mono po_none fun σ H Q q => by
  obtain ⟨α, F, ρ, l, ρ', E, ev, k⟩ := q
  simp only [evP] at ev
  cases ev
  exact k F H E .refl
theorem dp_some (ha : DX X C a ia) : PO X (some a) (tP X.K C (.cons ia ib)) := po_mono (po_some ha.x) fun σ H Q q => by
  obtain ⟨α, F, ρ, l, ρ', E, ev, k⟩ := q
  simp only [evP] at ev
  split at ev
  · rename_i i ρ1 e1
    cases ev
    exact ⟨α, F, ρ, _, ρ', E, e1, fun v F' H' A => ⟨i, int_rep A.rep, k F' H' A.er A.val⟩⟩
  · cases ev
theorem rpAll_cut {K : PySem.W.Frag} {F : Hp} {xs : List V} {ds : List PD} (q : RpAll K F xs ds) (lo hi : Option Int) : RpAll K F (cutV xs lo hi) (cutD ds lo hi) := by
  unfold cutV cutD
  rw [rpAll_len q]
  exact rpAll_take _ (rpAll_drop _ q)
theorem cutD_all {ds : List PD} {lo hi : Option Int} (h : HT.sIx ds.length 0 lo = 0 ∧ HT.sIx ds.length ds.length hi = ds.length) : cutD ds lo hi = ds := by
  unfold cutD
  rw [h.1, h.2, List.drop_zero, Nat.sub_zero, List.take_length]
theorem dx_slc {lo hi : Option Expr} {il ih : Ir} {p2 : Pos} (ha : DX X C a ia) (hl : PO X lo (tP X.K C il)) (hh : PO X hi (tP X.K C ih)) : DX X C (.Subscript a (.Slice lo hi none p2) pos) (.slc ia il ih) := by
  refine .mk' (pe_mono (pe_slice ((sl_list.or sl_tupA).or C8.sl_txt) (ha.o true) hl hh) fun σ H Q q => ?_) rfl rfl rfl
  obtain ⟨α, F, ρ, r, ρ', E, ev, k⟩ := q
  simp only [evX] at ev
  split at ev
  · cases ev
  · rename_i x ρ1 e1
    split at ev
    · cases ev
    · rename_i l ρ2 e2
      split at ev
      · cases ev
      · rename_i h ρ3 e3
        split at ev
        · rename_i d f1
          split at ev
          · rename_i r' f2
            cases ev
            refine ⟨α, F, ρ, x, ρ1, E, e1, fun v F1 H1 A => ⟨α, F1, ρ1, l, ρ2, A.er, e2, fun F2 H2 E2 s2 => ⟨α, F2, ρ2, h, ρ', E2, e3, fun F3 H3 E3 s3 => ?_⟩⟩⟩
            have w1 := view_of E3 (A.rep.step A.dist (s2.trans s3)) f1
            have st := A.st.trans (s2.trans s3)
            have fin : ∀ z F' H', Made X.K F3 H3 r z F' H' → Q z H' := fun z F' H' M => k z F' H' (.after st (.of_made E3 M))
            unfold slD at f2
            split at f2
            · cases f2
              obtain ⟨p, xs, rfl, h1, h2⟩ := w1.list E3.sub
              exact .inl (.inl ⟨p, xs, rfl, h1.sq, fun q hq => fin _ _ _ (made_lst E3.sub hq (rpAll_cut h2 _ _))⟩)
            · rename_i ds
              cases f2
              obtain ⟨p, xs, rfl, h1, h2⟩ := w1.tuple E3.sub
              refine .inl (.inr ⟨p, xs, rfl, h1, fun hw => ?_, fun hw q hq => fin _ _ _ (made_tup E3.sub hq (rpAll_cut h2 _ _))⟩)
              rw [rpAll_len h2] at hw
              rw [cutD_all hw] at fin
              rcases w1 with w1 | ⟨_, _, _, _, z, _⟩
              · exact fin _ _ _ (made_same E3.sub w1)
              · cases z
            · obtain ⟨hc, rfl⟩ := some_of_ite f2
              rw [w1.str]
              exact .inr ⟨_, rfl, hc, fin _ _ _ (made_same E3.sub (.str _))⟩
            · cases f2
          · cases ev
        · cases ev
theorem dx_rev {k : Nat} {p1 p2 p3 : Pos} (ha : DX X C a ia) : DX X C (.Subscript a (.Slice none none (some (.UnaryOp .USub (.Constant (.int 1) k p1) p2)) p3) pos) (.rev ia) := by
  refine .mk' (pe_mono (pe_revL (ha.o true)) fun σ H Q q => ?_) rfl rfl rfl
  obtain ⟨α, F, ρ, r, ρ', E, ev, k⟩ := q
  simp only [evX] at ev
  split at ev
  · cases ev
  · rename_i x ρ1 e1
    split at ev
    · rename_i ds f1
      cases ev
      refine ⟨α, F, ρ, x, ρ', E, e1, fun v F1 H1 A => ?_⟩
      obtain ⟨p, xs, rfl, h1, h2⟩ := (view_of A.er A.rep f1).list A.er.sub
      exact ⟨p, xs, rfl, h1.sq, fun q hq => k _ _ _ (.after A.st (.of_made A.er (made_lst A.er.sub hq (rpAll_rev h2))))⟩
    · cases ev

/-! ### lists of expressions -/
def tames : List Expr → Bool
  | [] => true
  | e :: es => tame e && tames es
structure DL (X : Cx) (C : Cfg) (m : Bool) (es : List Expr) (ir : Ir) : Prop where
  a : PA X es (tL X.K C m ir)
  tm : tames es = true
theorem dl_nil {m : Bool} : DL X C m [] .nil := ⟨pa_mono pa_nil fun σ H Q q => by
  obtain ⟨α, F, ρ, l, ρ', E, ev, k⟩ := q
  simp only [evL] at ev
  cases ev
  exact k [] F H ⟨E, .nil, .refl⟩, rfl⟩
theorem dl_cons {m : Bool} (ha : PE X a (tI X.K C m ia)) (tm : tame a = true) (hr : DL X C m es ir) : DL X C m (a :: es) (.cons ia ir) := by
  refine ⟨pa_mono (pa_cons ha hr.a (tame_star tm es X.env)) fun σ H Q q => ?_, ?_⟩
  · obtain ⟨α, F, ρ, l, ρ', E, ev, k⟩ := q
    simp only [evL] at ev
    split at ev
    · cases ev
    · rename_i x ρ1 e1
      split at ev
      · cases ev
      · rename_i xs ρ2 e2
        cases ev
        exact ⟨α, F, ρ, x, ρ1, E, e1, fun v F1 H1 A => ⟨α, F1, ρ1, xs, ρ', A.er, e2, fun vs F2 H2 B => k _ F2 H2 ⟨B.er, .cons (A.rep.step A.dist B.st) B.rep, A.st.trans B.st⟩⟩⟩
  · unfold tames; rw [tm, hr.tm]; rfl
theorem tames_any {env : PySem.Env} {p : Pos} : ∀ {es : List Expr}, tames es = true → (backTo p (starEach es env)).any (·.1) = false
  | [], _ => rfl
  | e :: es, h => by
    have h' : tame e = true ∧ tames es = true := Bool.and_eq_true_iff.mp h
    rw [tame_star h'.1]
    show (false || (backTo p (starEach es env)).any (·.1)) = false
    rw [tames_any h'.2]; rfl
theorem vals_of {K : PySem.W.Frag} {F H : Hp} {σ : L2.St} : ∀ {vs : List V} {xs : List Opd} {ds : List PD}, Paired (fun v x => RepO K F H σ v x) vs xs → valsOf xs = some ds → RpAll K F vs ds
  | _, _, _, .nil, h => by
    simp only [valsOf] at h
    cases h; exact .nil
  | _, _, _, .cons (b := x) r t, h => by
    unfold valsOf at h
    split at h
    · rename_i z; cases z
    · rename_i d xs' z
      cases z
      split at h
      · rename_i ds' e
        cases h
        exact .cons r (vals_of t e)
      · cases h
    · cases h
theorem dx_tup {x1} (h : DL X C false es ir) : DX X C (.Tuple es x1 pos) (.tup ir) := by
  refine .mk' (pe_mono (pe_tup h.a) fun σ H Q q => ?_) rfl rfl rfl
  obtain ⟨α, F, ρ, r, ρ', E, ev, k⟩ := q
  simp only [evX] at ev
  split at ev
  · cases ev
  · rename_i xs ρ1 e1
    split at ev
    · rename_i ds f1
      obtain ⟨hc, e2⟩ := some_of_ite ev
      cases e2
      refine ⟨α, F, ρ, xs, ρ', E, e1, fun vs F1 H1 A => ?_⟩
      have w := vals_of A.rep f1
      exact ⟨by rw [rpAll_len w]; exact hc, fun p hp => k _ _ _ (.after A.st (.of_made A.er (made_tup A.er.sub hp w)))⟩
    · cases ev
theorem dx_lst (h : DL X C false es ir) : DX X C (.List es pos) (.lst ir) := by
  refine .mk' (pe_mono (pe_lst h.a) fun σ H Q q => ?_) rfl rfl rfl
  obtain ⟨α, F, ρ, r, ρ', E, ev, k⟩ := q
  simp only [evX] at ev
  split at ev
  · cases ev
  · rename_i xs ρ1 e1
    split at ev
    · rename_i ds f1
      obtain ⟨hc, e2⟩ := some_of_ite ev
      cases e2
      refine ⟨α, F, ρ, xs, ρ', E, e1, fun vs F1 H1 A => ?_⟩
      have w := vals_of A.rep f1
      exact ⟨by rw [rpAll_len w]; exact hc, fun p hp => k _ _ _ (.after A.st (.of_made A.er (made_lst A.er.sub hp w)))⟩
    · cases ev

/-! ### calls of built-ins -/
def CallD (X : Cx) (f : Value) (g : List PD → Option Slo) : Prop :=
  ∀ (pins : List (Addr × Obj)) (s : Shared) (σ : L2.St) (H : Hp) (vs : List V) (us : List Value) (Q : VK) (F : Hp) (ds : List PD) (r : Slo), Inv X pins σ H s → Vals vs us → Same F H → Paired (fun v d => Vp X.K F H v d) vs ds → g ds = some r →
    (∀ z F' H', Made X.K F H r z F' H' → Q z H') → wpAny (model X.prog X.w) X.A (call f us) (EP X pins σ Q) X.xe s
def rP (K : PySem.W.Frag) (g : List PD → Option Slo) : List V → Hp → VK → Prop := fun vs H Q => ∃ F ds r, Same F H ∧ Paired (fun v d => Vp K F H v d) vs ds ∧ g ds = some r ∧ ∀ z F' H', Made K F H r z F' H' → Q z H'
theorem callr_of {f : Value} {g : List PD → Option Slo} (h : CallD X f g) : CallR X f (rP X.K g) := fun pins s σ H vs us Q I r ⟨F, ds, r', sm, w, hg, q⟩ => h pins s σ H vs us Q F ds r' I r sm w hg q
theorem one_of {F H : Hp} {K : PySem.W.Frag} {vs : List V} {d : PD} (h : Paired (fun v d => Vp K F H v d) vs [d]) : ∃ v, vs = [v] ∧ Vp K F H v d := by
  cases h with
  | cons a t => cases t; exact ⟨_, rfl, a⟩
theorem two_of {F H : Hp} {K : PySem.W.Frag} {vs : List V} {d e : PD} (h : Paired (fun v d => Vp K F H v d) vs [d, e]) : ∃ v u, vs = [v, u] ∧ Vp K F H v d ∧ Vp K F H u e := by
  cases h with
  | cons a t =>
    obtain ⟨u, rfl, hu⟩ := one_of t
    exact ⟨_, _, rfl, a, hu⟩
theorem ints_of {K : PySem.W.Frag} {F : Hp} : ∀ {vs : List V} {ds : List PD} {ns : List Int}, RpAll K F vs ds → intsOf ds = some ns → vs = ns.map V.int
  | _, _, _, .nil, h => by simp only [intsOf] at h; cases h; rfl
  | _, _, _, .cons q t, h => by
    cases q <;> simp only [intsOf] at h <;> try cases h
    rename_i i
    cases e : intsOf _ with
    | none => rw [e] at h; cases h
    | some l =>
      rw [e] at h
      cases h
      rw [List.map_cons, ints_of t e]
theorem bools_of {K : PySem.W.Frag} {F : Hp} : ∀ {vs : List V} {ds : List PD} {ns : List Bool}, RpAll K F vs ds → boolsOf ds = some ns → vs = ns.map V.bl
  | _, _, _, .nil, h => by simp only [boolsOf] at h; cases h; rfl
  | _, _, _, .cons q t, h => by
    cases q <;> simp only [boolsOf] at h <;> try cases h
    rename_i i
    cases e : boolsOf _ with
    | none => rw [e] at h; cases h
    | some l =>
      rw [e] at h
      cases h
      rw [List.map_cons, bools_of t e]
theorem cd_len : CallD X (.builtin "len") (prD .len) := by
  intro pins s σ H vs us Q F ds r I rv sm w h q
  unfold prD at h
  split at h <;> try (first | cases h; done | (rename_i hb; cases hb; done))
  · cases h
    obtain ⟨v, rfl, w1⟩ := one_of w
    obtain ⟨a, xs, rfl, h1, h2⟩ := w1.list sm
    refine call_len_seq pins s σ H _ us Q I rv ⟨a, xs, rfl, .inl h1.sq, ?_⟩
    rw [rpAll_len h2]
    exact q _ _ _ (made_same sm (.int _))
  · cases h
    obtain ⟨v, rfl, w1⟩ := one_of w
    obtain ⟨a, xs, rfl, h1, h2⟩ := w1.tuple sm
    refine call_len_seq pins s σ H _ us Q I rv ⟨a, xs, rfl, .inr h1, ?_⟩
    rw [rpAll_len h2]
    exact q _ _ _ (made_same sm (.int _))
  · obtain ⟨hc, rfl⟩ := some_of_ite h
    obtain ⟨v, rfl, w1⟩ := one_of w
    rw [w1.str] at rv
    exact call_len_str pins s σ H _ us Q I rv ⟨_, rfl, hc, q _ _ _ (made_same sm (.int _))⟩
theorem cd_int : CallD X (.type "int") (prD .int) := by
  intro pins s σ H vs us Q F ds r I rv sm w h q
  unfold prD at h
  split at h <;> try (first | cases h; done | (rename_i hb; cases hb; done))
  · cases h
    obtain ⟨v, rfl, w1⟩ := one_of w
    rw [w1.int] at rv
    exact call_int1 pins s σ H _ us Q I rv (.inl ⟨_, rfl, q _ _ _ (made_same sm (.int _))⟩)
  · cases h
    obtain ⟨v, rfl, w1⟩ := one_of w
    rw [w1.bl] at rv
    exact call_int1 pins s σ H _ us Q I rv (.inr ⟨_, rfl, q _ _ _ (made_same sm (.int _))⟩)
  · split at h
    · rename_i n e
      obtain ⟨hc, rfl⟩ := some_of_ite h
      obtain ⟨v, rfl, w1⟩ := one_of w
      rw [w1.str] at rv
      exact call_int_str pins s σ H _ us Q I rv ⟨_, _, rfl, e, hc, q _ _ _ (made_same sm (.int _))⟩
    · cases h
theorem cd_str : CallD X (.type "str") (prD .str) := by
  intro pins s σ H vs us Q F ds r I rv sm w h q
  unfold prD at h
  split at h <;> try (first | cases h; done | (rename_i hb; cases hb; done))
  · obtain ⟨hc, rfl⟩ := some_of_ite h
    obtain ⟨v, rfl, w1⟩ := one_of w
    rw [w1.int] at rv
    exact call_str_int pins s σ H _ us Q I rv ⟨_, rfl, hc, q _ _ _ (made_same sm (.str _))⟩
  · cases h
    obtain ⟨v, rfl, w1⟩ := one_of w
    rw [w1.str] at rv
    exact SkE.call_str_str pins s σ H _ us Q I rv ⟨_, rfl, q _ _ _ (made_same sm (.str _))⟩
theorem cd_abs : CallD X (.builtin "abs") (prD .abs) := by
  intro pins s σ H vs us Q F ds r I rv sm w h q
  unfold prD at h
  split at h <;> try (first | cases h; done | (rename_i hb; cases hb; done))
  cases h
  obtain ⟨v, rfl, w1⟩ := one_of w
  rw [w1.int] at rv
  exact call_abs pins s σ H _ us Q I rv ⟨_, rfl, q _ _ _ (made_same sm (.int _))⟩
theorem cd_tuple : CallD X (.type "tuple") (prD .tuple) := by
  intro pins s σ H vs us Q F ds r I rv sm w h q
  unfold prD at h
  split at h <;> try (first | cases h; done | (rename_i hb; cases hb; done))
  · cases h
    obtain ⟨v, rfl, w1⟩ := one_of w
    obtain ⟨a, xs, rfl, h1, h2⟩ := w1.list sm
    exact call_tuple_of pins s σ H _ us Q I rv ⟨a, xs, rfl, .inl ⟨h1.sq, fun p hp => q _ _ _ (made_tup sm hp h2)⟩⟩
  · cases h
    obtain ⟨v, rfl, w1⟩ := one_of w
    obtain ⟨a, xs, rfl, h1, h2⟩ := w1.tuple sm
    refine call_tuple_of pins s σ H _ us Q I rv ⟨a, xs, rfl, .inr ⟨h1, ?_⟩⟩
    rcases w1 with w1 | ⟨_, _, _, _, z, _⟩
    · exact q _ _ _ (made_same sm w1)
    · cases z
theorem cd_list : CallD X (.type "list") (prD .list) := by
  intro pins s σ H vs us Q F ds r I rv sm w h q
  unfold prD at h
  split at h <;> try (first | cases h; done | (rename_i hb; cases hb; done))
  · cases h
    obtain ⟨v, rfl, w1⟩ := one_of w
    obtain ⟨a, xs, rfl, h1, h2⟩ := w1.list sm
    exact call_list_of pins s σ H _ us Q I rv ⟨a, xs, rfl, .inl h1.sq, fun p hp => q _ _ _ (made_lst sm hp h2)⟩
  · cases h
    obtain ⟨v, rfl, w1⟩ := one_of w
    obtain ⟨a, xs, rfl, h1, h2⟩ := w1.tuple sm
    exact call_list_of pins s σ H _ us Q I rv ⟨a, xs, rfl, .inr h1, fun p hp => q _ _ _ (made_lst sm hp h2)⟩
theorem cd_max (hc : X.calm = true) : CallD X (.builtin "max") (prD .max) := by
  intro pins s σ H vs us Q F ds r I rv sm w h q
  unfold prD at h
  split at h <;> try (first | cases h; done | (rename_i hb; cases hb; done))
  cases h
  obtain ⟨v, u, rfl, w1, w2⟩ := two_of w
  rw [w1.int, w2.int] at rv
  exact call_max2 hc pins s σ H _ us Q I rv ⟨_, _, rfl, q _ _ _ (made_same sm (.int _))⟩
theorem cd_min (hc : X.calm = true) : CallD X (.builtin "min") (prD .min) := by
  intro pins s σ H vs us Q F ds r I rv sm w h q
  unfold prD at h
  split at h <;> try (first | cases h; done | (rename_i hb; cases hb; done))
  cases h
  obtain ⟨v, u, rfl, w1, w2⟩ := two_of w
  rw [w1.int, w2.int] at rv
  exact call_min2 hc pins s σ H _ us Q I rv ⟨_, _, rfl, q _ _ _ (made_same sm (.int _))⟩
theorem cd_sum (hc : X.calm = true) : CallD X (.builtin "sum") (prD .sum) := by
  intro pins s σ H vs us Q F ds r I rv sm w h q
  unfold prD at h
  split at h <;> try (first | cases h; done | (rename_i hb; cases hb; done))
  rename_i ds _
  cases e : intsOf ds with
  | none => rw [e] at h; cases h
  | some ns =>
    rw [e] at h
    cases h
    obtain ⟨v, rfl, w1⟩ := one_of w
    obtain ⟨a, xs, rfl, h1, h2⟩ := w1.list sm
    have := ints_of h2 e
    subst this
    exact cr_sum hc pins s σ H _ us Q I rv ⟨a, ns, rfl, h1.sq, q _ _ _ (made_same sm (.int _))⟩
theorem cd_all (hc : X.calm = true) : CallD X (.builtin "all") (prD .all) := by
  intro pins s σ H vs us Q F ds r I rv sm w h q
  unfold prD at h
  split at h <;> try (first | cases h; done | (rename_i hb; cases hb; done))
  rename_i ds _
  cases e : boolsOf ds with
  | none => rw [e] at h; cases h
  | some ns =>
    rw [e] at h
    cases h
    obtain ⟨v, rfl, w1⟩ := one_of w
    obtain ⟨a, xs, rfl, h1, h2⟩ := w1.list sm
    have := bools_of h2 e
    subst this
    exact cr_all hc pins s σ H _ us Q I rv ⟨a, ns, rfl, h1.sq, q _ _ _ (made_same sm (.bl _))⟩
theorem paired_read {K : PySem.W.Frag} {α : Nat → Addr} {F H : Hp} {ρ : DEn} {σ : L2.St} (E : ER K α F H ρ σ) : ∀ {vs : List V} {xs : List Opd} {ds : List PD}, Paired (fun v x => RepO K F H σ v x) vs xs → rdAll ρ xs = some ds → Paired (fun v d => Vp K F H v d) vs ds
  | _, _, _, .nil, h => by simp only [rdAll] at h; cases h; exact .nil
  | _, _, _, .cons r t, h => by
    simp only [rdAll] at h
    split at h
    · rename_i d ds' e1 e2
      cases h
      exact .cons (view_of E r e1) (paired_read E t e2)
    · cases h
theorem cd_repr (hu : X.A.units + 128 < cLine) (gd : X.A.guards = some []) : CallD X (.builtin "repr") (prD .repr) := by
  intro pins s σ H vs us Q F ds r I rv sm w h q
  unfold prD at h
  split at h <;> try (first | cases h; done | (rename_i hb; cases hb; done))
  rename_i d _
  obtain ⟨⟨h1, h2, h3, h4⟩, rfl⟩ := some_of_ite h
  obtain ⟨v, rfl, w1⟩ := one_of w
  obtain ⟨u, rfl, ru⟩ := vals1 rv
  have fin : ∀ (t : Tok) (s' : Shared), Inv X pins σ H s' → EP X pins σ Q (.str d.shown t) s' := fun t s' I' => ⟨.str d.shown, H, I', ⟨_, rfl⟩, q _ _ _ (made_same sm (.str _))⟩
  have cont : ∀ a, v = .ref a → wpAny (model X.prog X.w) X.A (call (.builtin "repr") [u]) (EP X pins σ Q) X.xe s := fun a e => by
    subst e
    cases ru
    obtain ⟨as, rd⟩ := Dp.reads I d _ _ (w1.dp sm) rfl
    exact repr_of_reads' rd h1 (PySem.PyData.noDict_hsm h2) gd (by omega) (fun _ _ e => e) (fun h' u tk kp => fin u _ (I.kept kp)) h3
  cases d with
  | none =>
    rw [w1.non] at ru
    cases ru
    simp only [PyData.shown] at fin
    exact PySem.P.repr_of_none (fin _ _ (I.tok _))
  | bool b =>
    rw [w1.bl] at ru
    cases ru
    simp only [PyData.shown] at fin
    exact PySem.P.repr_of_bool (fin _ _ (I.tok _))
  | int i =>
    rw [w1.int] at ru
    obtain ⟨t, rfl⟩ := ru
    simp only [PyData.shown] at fin
    exact PySem.P.repr_of_int (by simpa [PyData.showable] using h1) (fin _ _ (I.tok _))
  | str x =>
    rw [w1.str] at ru
    obtain ⟨t, rfl⟩ := ru
    simp only [PyData.shown] at fin h3
    exact PySem.P.repr_of_str (fin _ _ (I.tok _)) h3
  | list es =>
    obtain ⟨a, xs, rfl, _⟩ := w1.list sm
    exact cont a rfl
  | tuple es =>
    obtain ⟨a, xs, rfl, _⟩ := w1.tuple sm
    exact cont a rfl
  | dict es => cases h2
/-- the built-ins by name -/
def prOf (x : Str) : Option Pr :=
  if x = "len" then some .len else if x = "int" then some .int else if x = "str" then some .str else if x = "abs" then some .abs else if x = "tuple" then some .tuple else
  if x = "list" then some .list else if x = "max" then some .max else if x = "min" then some .min else if x = "sum" then some .sum else if x = "all" then some .all else if x = "repr" then some .repr else none
theorem prim_weak {p : Pr} {σ : L2.St} {H : Hp} {Q : VK} {K : PySem.W.Frag} (q : tX K C (.prim p ir) σ H Q) : tCB (rP K (prD p)) (tL K C true ir) σ H Q := by
  obtain ⟨α, F, ρ, r, ρ', E, ev, k⟩ := q
  simp only [evX] at ev
  split at ev
  · cases ev
  · rename_i xs ρ1 e1
    split at ev
    · cases ev
    · rename_i ds f1
      split at ev
      · rename_i r' f2
        cases ev
        exact ⟨α, F, ρ, xs, ρ', E, e1, fun vs F1 H1 A => ⟨F1, ds, r, A.er.sub, paired_read A.er A.rep f1, f2, fun z F' H' M => k z F' H' (.after A.st (.of_made A.er M))⟩⟩
      · cases ev
theorem dx_prim {x : Str} {p : Pr} {e : Expr} {np : Pos} (hp : prOf x = some p) (hc : X.calm = true) (hu : X.A.units + 128 < cLine) (gd : X.A.guards = some []) (hg : Gl X x) (hm : X.mg x = none) (h : DL X C true (e :: es) ir) : DX X C (.Call (.Name x np) (e :: es) [] pos) (.prim p ir) := by
  have h1 : tame e = true ∧ tames es = true := Bool.and_eq_true_iff.mp h.tm
  have s1 := tame_star h1.1 es X.env
  have s2 := tames_any (env := X.env) (p := pos) h1.2
  refine .mk' ?_ rfl rfl rfl
  have go : ∀ (f : Value), bootBuiltins x = some f → (∃ id, f = .builtin id) ∨ (∃ T, f = .type T) → CallD X f (prD p) → x ≠ "__name__" → (x == ("__debug__" : Str)) = false → PE X (.Call (.Name x np) (e :: es) [] pos) (tX X.K C (.prim p ir)) := by
    intro f hb hf hd hn hdb
    rcases hf with ⟨id, rfl⟩ | ⟨T, rfl⟩
    · exact pe_mono (pe_callB (callr_of hd) hg hm hb h.a hn hdb s1 s2) fun σ H Q q => prim_weak q
    · exact pe_mono (pe_callTy (callr_of hd) hg hm hb h.a hn hdb s1 s2) fun σ H Q q => prim_weak q
  unfold prOf at hp
  by_cases c1 : x = "len"
  · subst c1; rw [if_pos rfl] at hp; cases hp; exact go _ (by decide +kernel) (.inl ⟨_, rfl⟩) cd_len (by decide) (by decide)
  rw [if_neg c1] at hp
  by_cases c1 : x = "int"
  · subst c1; rw [if_pos rfl] at hp; cases hp; exact go _ (by decide +kernel) (.inr ⟨_, rfl⟩) cd_int (by decide) (by decide)
  rw [if_neg c1] at hp
  by_cases c1 : x = "str"
  · subst c1; rw [if_pos rfl] at hp; cases hp; exact go _ (by decide +kernel) (.inr ⟨_, rfl⟩) cd_str (by decide) (by decide)
  rw [if_neg c1] at hp
  by_cases c1 : x = "abs"
  · subst c1; rw [if_pos rfl] at hp; cases hp; exact go _ (by decide +kernel) (.inl ⟨_, rfl⟩) cd_abs (by decide) (by decide)
  rw [if_neg c1] at hp
  by_cases c1 : x = "tuple"
  · subst c1; rw [if_pos rfl] at hp; cases hp; exact go _ (by decide +kernel) (.inr ⟨_, rfl⟩) cd_tuple (by decide) (by decide)
  rw [if_neg c1] at hp
  by_cases c1 : x = "list"
  · subst c1; rw [if_pos rfl] at hp; cases hp; exact go _ (by decide +kernel) (.inr ⟨_, rfl⟩) cd_list (by decide) (by decide)
  rw [if_neg c1] at hp
  by_cases c1 : x = "max"
  · subst c1; rw [if_pos rfl] at hp; cases hp; exact go _ (by decide +kernel) (.inl ⟨_, rfl⟩) (cd_max hc) (by decide) (by decide)
  rw [if_neg c1] at hp
  by_cases c1 : x = "min"
  · subst c1; rw [if_pos rfl] at hp; cases hp; exact go _ (by decide +kernel) (.inl ⟨_, rfl⟩) (cd_min hc) (by decide) (by decide)
  rw [if_neg c1] at hp
  by_cases c1 : x = "sum"
  · subst c1; rw [if_pos rfl] at hp; cases hp; exact go _ (by decide +kernel) (.inl ⟨_, rfl⟩) (cd_sum hc) (by decide) (by decide)
  rw [if_neg c1] at hp
  by_cases c1 : x = "all"
  · subst c1; rw [if_pos rfl] at hp; cases hp; exact go _ (by decide +kernel) (.inl ⟨_, rfl⟩) (cd_all hc) (by decide) (by decide)
  rw [if_neg c1] at hp
  by_cases c1 : x = "repr"
  · subst c1; rw [if_pos rfl] at hp; cases hp; exact go _ (by decide +kernel) (.inl ⟨_, rfl⟩) (cd_repr hu gd) (by decide) (by decide)
  rw [if_neg c1] at hp
  cases hp
end
end Dv

set_option Elab.async false
set_option linter.all false
set_option maxRecDepth 100000
set_option maxHeartbeats 4000000
/-! owned lists are changed -/
namespace Dv
open PySem PySem.Spec PyProof.Rows L2
section
open PySem.SeqAt PySem.AutoSeq1
/-- list.extend with any tuple -/
theorem ext_any (l b : Addr) (xs ys : Array Value) (n k : Nat) (dd : Option Addr) (sl : Array (Option Value))
    (h0 : ¬(!xs.isEmpty && Builtin.List.listTooLong (xs.size + ys.size)) = true) (h1 : xs.size ≤ sizeLine) (h2 : xs.size + ys.size ≤ sizeLine + 1) :
    Meets (Builtin.«list.extend» ⟨[.ref l, .ref b], []⟩)
      (fun _ R s => s.heap.get? l = some { cls := .type "list", data := .seq xs n } ∧ s.heap.get? b = some { cls := .type "tuple", dict := dd, data := .seq ys k, slots := sl } ∧
        R (.ok (.ret Value.none)) { s with heap := s.heap.update l (Obj.mapSeq fun x => x ++ ys), toks := s.toks }) :=
  .of_wp fun prog w A R s h => by
    obtain ⟨hp, g, d, tk, os⟩ := s
    obtain ⟨hl, hb, h⟩ := h
    have f1 := idx_int
    have f2 := AutoSeq1.sub_tuple_tuple
    have f3 := AutoSeq1.sub_list_list
    have f4 := AutoSeq1.sub_tuple_list
    have f5 := AutoSeq1.sub_list_tuple
    have hz' : (xs ++ ys).size ≤ sizeLine + 1 := by rw [Array.size_append]; exact h2
    wp_walk using (wpAny_updateSeq hl rfl (hz := h1) (_hz' := hz')), wpAny_loadPart' hl, wpAny_loadPart' hb
    exact ⟨_, rfl, h⟩
end
section
variable {K : PySem.W.Frag}
/-- the owned list at a slot is another one now -/
theorem ER.write {α : Nat → Addr} {F H : Hp} {ρ : DEn} {σ : L2.St} {i : Nat} {p : Option Nat} {ds ds' : List PD} {a : Addr} {xs' : List V} (E : ER K α F H ρ σ) (h : ρ[i]? = some (Slo.own p ds)) (ha : σ[i]? = some (some (V.ref a))) (q : RpAll K F xs' ds') :
    ER K α F (upd H a (.lst xs')) (ρ.set i (.own p ds')) σ ∧ Stp (OwnA ρ σ) (OwnA (ρ.set i (.own p ds')) σ) F H F (upd H a (.lst xs')) := by
  obtain ⟨a', xs, h1, h2, h3, h4, h5⟩ := E.own i p ds h
  rw [ha] at h1
  cases h1
  have hi : i < ρ.length := (List.getElem?_eq_some_iff.mp h).1
  have hin : ∀ (j : Nat) (q : Option Nat) (es : List PD), (ρ.set i (.own p ds'))[j]? = some (Slo.own q es) → (j = i ∧ q = p ∧ es = ds') ∨ (j ≠ i ∧ ρ[j]? = some (Slo.own q es)) := fun j q es e => by
    by_cases c : j = i
    · subst c; rw [List.getElem?_set_self hi] at e; cases e; exact .inl ⟨rfl, rfl, rfl⟩
    · rw [List.getElem?_set_ne (Ne.symm c)] at e; exact .inr ⟨c, e⟩
  have back : ∀ (j : Nat) (q : Option Nat) (es : List PD), (ρ.set i (.own p ds'))[j]? = some (Slo.own q es) → ∃ es', ρ[j]? = some (Slo.own q es') := fun j q es e => by
    rcases hin j q es e with ⟨rfl, rfl, rfl⟩ | ⟨_, e⟩
    · exact ⟨_, h⟩
    · exact ⟨_, e⟩
  refine ⟨⟨fun b o e => ?_, by rw [List.length_set]; exact E.len, fun j d e => ?_, fun j q' es e => ?_, fun j k q q' es es' n e1 e2 => ?_⟩, Same.refl _, fun b o e n => ?_, fun b o _ _ f => f, fun b z => ?_, fun b o e => ?_⟩
  · rw [upd_ne]
    · exact E.sub b o e
    · rintro rfl; rw [h3] at e; cases e
  · by_cases c : j = i
    · subst c; rw [List.getElem?_set_self hi] at e; cases e
    · rw [List.getElem?_set_ne (Ne.symm c)] at e
      exact E.val j d e
  · rcases hin j q' es e with ⟨rfl, rfl, rfl⟩ | ⟨c, e⟩
    · exact ⟨a, xs', ha, upd_same, h3, q, h5⟩
    · obtain ⟨b, ys, k1, k2, k3, k4, k5⟩ := E.own j q' es e
      refine ⟨b, ys, k1, ?_, k3, k4, k5⟩
      rw [upd_ne]
      · exact k2
      · rintro rfl
        exact E.inj j i q' p es ds c e h (by rw [k1, ha])
  · obtain ⟨_, e1⟩ := back _ _ _ e1
    obtain ⟨_, e2⟩ := back _ _ _ e2
    exact E.inj j k q q' _ _ n e1 e2
  · rw [upd_ne]
    · exact e
    · rintro rfl; exact n ⟨i, p, ds, h, ha⟩
  · obtain ⟨j, q', es, e1, e2⟩ := z
    obtain ⟨_, e1⟩ := back _ _ _ e1
    exact .inl ⟨j, q', _, e1, e2⟩
  · by_cases c : b = a
    · subst c; exact ⟨_, upd_same⟩
    · exact ⟨o, by rw [upd_ne c]; exact e⟩
end
section
variable {X : Cx} {C : Cfg} {a b c : Expr} {ia ib ic ir : Ir} {pos : Pos} {es : List Expr}
theorem few1 {e : Expr} (h : tame e = true) (p : Pos) (env : PySem.Env) : ((backTo p (starEach [e] env)).all (fun x => !x.1) && (backToKw p (keywordEach [] env)).all (fun x => x.1.isSome)
      && decide ([e].length + ([] : List Keyword).length + (if ([] : List Keyword).isEmpty then 0 else 1) < 30)) = true := by
  rw [tame_star h]; rfl
theorem dx_app {i : Nat} {x : Str} {e : Expr} {ie : Ir} {np apos : Pos} (hv : PE X (.Name x np) (tVar i)) (he : DX X C e ie) (hline : (apos.endLine == pos.line) = true) : DX X C (.Call (.Attribute (.Name x np) "append" apos) [e] [] pos) (.app i ie) := by
  have s1 := tame_star he.tm [] X.env
  refine .mk' (pe_mono (pe_bm PySem.F.plainAttrs_list PySem.F.slot_list_append PySem.F.type_list_append mt_append hv (pa_cons (he.o false) pa_nil s1) rfl (few1 he.tm pos X.env) hline s1 rfl) fun σ H Q q => ?_) rfl rfl rfl
  obtain ⟨α, F, ρ, r, ρ', E, ev, k⟩ := q
  simp only [evX] at ev
  split at ev
  · rename_i p0 ds0 e0
    split at ev
    · rename_i d ρ1 e1
      split at ev
      · rename_i p ds e2
        obtain ⟨hc, e3⟩ := some_of_ite ev
        cases e3
        obtain ⟨a0, xs0, h1, h2, h3, h4, _⟩ := E.own i p0 ds0 e0
        refine ⟨.ref a0, h1, .inl ⟨rfl, xs0, .of h2⟩, α, F, ρ, _, ρ1, E, e1, fun v F1 H1 A => ?_⟩
        obtain ⟨a1, xs1, k1, k2, k3, k4, _⟩ := A.er.own i p ds e2
        rw [h1] at k1
        cases k1
        have w : Rp X.K F1 v d := A.rep
        obtain ⟨E', st⟩ := A.er.write e2 h1 (rpAll_app k4 (.cons w .nil))
        refine ⟨a0, xs1, v, rfl, rfl, k2, by rw [rpAll_len k4]; exact hc, k _ F1 _ (.after (A.st.trans st) (.of_made E' (made_same E'.sub .non)))⟩
      · cases ev
    · cases ev
  · cases ev
theorem mt_ext_tup {l b : Addr} {xs zs : List V} {pins : List (Addr × Obj)} {s : Shared} {σ : L2.St} {H : Hp} {Q : VK} (I : Inv X pins σ H s) (hH : H l = some (.lst xs)) (hB : SqT X.K H b zs) (hz : xs.length + zs.length ≤ sizeLine)
    (q : Q .non (upd H l (.lst (xs ++ zs)))) : wpAny (model X.prog X.w) X.A (call (.builtin "list.extend") [.ref l, .ref b]) (EP X pins σ Q) X.xe s := by
  obtain ⟨z, its, n, r, hl, e⟩ := I.lstM hH
  obtain ⟨its2, r2, ⟨o2, e2, c2, n2, d2⟩, _⟩ := I.tuple hB
  obtain ⟨cls2, dd2, data2, sl2⟩ := o2
  simp only at c2 d2
  subst c2 d2
  have hl2 := r2.length
  have hsz : its.toArray.size + its2.toArray.size ≤ sizeLine := by rw [List.size_toArray, List.size_toArray]; omega
  have h0 : ¬(!its.toArray.isEmpty && Builtin.List.listTooLong (its.toArray.size + its2.toArray.size)) = true := by rw [notLongL hsz, Bool.and_false]; decide
  refine call_meets PySem.F.slot_list_extend ⟨_, e, rfl⟩ PySem.F.entry_list_extend (PySem.F.args_list_extend_2 _ _) (ext_any l b its.toArray its2.toArray n n2 dd2 sl2 h0 (by rw [List.size_toArray]; omega) (by omega)) ⟨e, e2, ?_⟩
  exact ⟨.non, _, I.lset (its' := its ++ its2) hH e (by simp) (r.append r2) (by rw [List.length_append]; omega), rfl, q⟩
theorem mt_ext_ls {l b : Addr} {xs zs : List V} {pins : List (Addr × Obj)} {s : Shared} {σ : L2.St} {H : Hp} {Q : VK} (I : Inv X pins σ H s) (hH : H l = some (.lst xs)) (hB : LsR X.K H b zs) (hz : xs.length + zs.length ≤ sizeLine)
    (q : Q .non (upd H l (.lst (xs ++ zs)))) : wpAny (model X.prog X.w) X.A (call (.builtin "list.extend") [.ref l, .ref b]) (EP X pins σ Q) X.xe s := by
  obtain ⟨z, its, n, r, hl, e⟩ := I.lstM hH
  obtain ⟨z2, its2, n2, r2, e2⟩ := hB.exact I
  have hl2 := r2.length
  have hsz : its.toArray.size + its2.toArray.size ≤ sizeLine := by rw [List.size_toArray, List.size_toArray]; omega
  have h0 : ¬(!its.toArray.isEmpty && Builtin.List.listTooLong (its.toArray.size + its2.toArray.size)) = true := by rw [notLongL hsz, Bool.and_false]; decide
  refine call_meets PySem.F.slot_list_extend ⟨_, e, rfl⟩ PySem.F.entry_list_extend (PySem.F.args_list_extend_2 _ _) (AutoSeq1.list_extend_list_list_0 l its.toArray n b its2.toArray n2 h0 (by rw [List.size_toArray]; omega) (by omega)) ⟨e, e2, ?_⟩
  exact ⟨.non, _, I.lset (its' := its ++ its2) hH e (by simp) (r.append r2) (by rw [List.length_append]; omega), rfl, q⟩
/-- extend with a list or a tuple -/
def rExtA (K : PySem.W.Frag) : V → List V → Hp → VK → Prop := fun x vs H Q => ∃ l b xs zs, x = .ref l ∧ vs = [.ref b] ∧ H l = some (.lst xs) ∧ (LsR K H b zs ∨ SqT K H b zs) ∧ xs.length + zs.length ≤ sizeLine ∧ Q .non (upd H l (.lst (xs ++ zs)))
theorem mt_extA : MtR X "list.extend" (rExtA X.K) := by
  intro pins s σ H x vs v us Q I rx rv h
  obtain ⟨l, b, xs, zs, rfl, rfl, hH, hB, hz, q⟩ := h
  cases rx
  obtain ⟨u, rfl, ru⟩ := rv.one
  cases ru
  rcases hB with hB | hB
  · exact mt_ext_ls I hH hB hz q
  · exact mt_ext_tup I hH hB hz q
theorem dx_ext {i : Nat} {x : Str} {e : Expr} {ie : Ir} {np apos : Pos} (hv : PE X (.Name x np) (tVar i)) (he : DX X C e ie) (hline : (apos.endLine == pos.line) = true) : DX X C (.Call (.Attribute (.Name x np) "extend" apos) [e] [] pos) (.ext i ie) := by
  have s1 := tame_star he.tm [] X.env
  refine .mk' (pe_mono (pe_bm PySem.F.plainAttrs_list PySem.F.slot_list_extend PySem.F.type_list_extend mt_extA hv (pa_cons (he.o false) pa_nil s1) rfl (few1 he.tm pos X.env) hline s1 rfl) fun σ H Q q => ?_) rfl rfl rfl
  obtain ⟨α, F, ρ, r, ρ', E, ev, k⟩ := q
  simp only [evX] at ev
  split at ev
  · rename_i p0 ds0 e0
    split at ev
    · rename_i d ρ1 e1
      split at ev
      · rename_i p ds e2
        split at ev
        · rename_i es e4
          obtain ⟨hc, e3⟩ := some_of_ite ev
          cases e3
          obtain ⟨a0, xs0, h1, h2, h3, h4, _⟩ := E.own i p0 ds0 e0
          refine ⟨.ref a0, h1, .inl ⟨rfl, xs0, .of h2⟩, α, F, ρ, _, ρ1, E, e1, fun v F1 H1 A => ?_⟩
          obtain ⟨a1, xs1, k1, k2, k3, k4, _⟩ := A.er.own i p ds e2
          rw [h1] at k1
          cases k1
          have w : Rp X.K F1 v d := A.rep
          obtain ⟨b, zs, rfl, w1, w2⟩ : ∃ b zs, v = .ref b ∧ (LsR X.K H1 b zs ∨ SqT X.K H1 b zs) ∧ RpAll X.K F1 zs es := by
            unfold seqD at e4
            split at e4
            · cases e4
              cases w with
              | lst w1 w2 => exact ⟨_, _, rfl, .inl (ls_mono A.er.sub w1), w2⟩
            · cases e4
              cases w with
              | tup w1 w2 => exact ⟨_, _, rfl, .inr (sqt_mono A.er.sub w1), w2⟩
            · cases e4
          obtain ⟨E', st⟩ := A.er.write e2 h1 (rpAll_app k4 w2)
          refine ⟨a0, b, xs1, zs, rfl, rfl, k2, w1, by rw [rpAll_len k4, rpAll_len w2]; exact hc, k _ F1 _ (.after (A.st.trans st) (.of_made E' (made_same E'.sub .non)))⟩
        · cases ev
      · cases ev
    · cases ev
  · cases ev
theorem dx_pop {i : Nat} {x : Str} {np apos : Pos} (hv : PE X (.Name x np) (tVar i)) (hline : (apos.endLine == pos.line) = true) : DX X C (.Call (.Attribute (.Name x np) "pop" apos) [] [] pos) (.pop i) := by
  refine .mk' (pe_mono (pe_bm0 PySem.F.plainAttrs_list PySem.F.slot_list_pop PySem.F.type_list_pop mt_pop hv rfl hline) fun σ H Q q => ?_) rfl rfl rfl
  obtain ⟨α, F, ρ, r, ρ', E, ev, k⟩ := q
  simp only [evX] at ev
  split at ev
  · rename_i p ds e0
    split at ev
    · rename_i d e1
      cases ev
      obtain ⟨a0, xs0, h1, h2, h3, h4, _⟩ := E.own i p ds e0
      obtain ⟨v, g1, g2⟩ := rpAll_get h4 e1
      obtain ⟨E', st⟩ := E.write e0 h1 (rpAll_dropLast h4)
      exact ⟨.ref a0, h1, .inl ⟨rfl, xs0, .of h2⟩, a0, xs0, v, rfl, rfl, h2, by rw [rpAll_len h4]; exact g1, k v F _ (.after st (.of_made E' (made_same E'.sub g2)))⟩
    · cases ev
  · cases ev
theorem dx_clr {i : Nat} {x : Str} {np apos : Pos} (hv : PE X (.Name x np) (tVar i)) (hline : (apos.endLine == pos.line) = true) : DX X C (.Call (.Attribute (.Name x np) "clear" apos) [] [] pos) (.clr i) := by
  refine .mk' (pe_mono (pe_bm0 PySem.F.plainAttrs_list PySem.F.slot_list_clear PySem.F.type_list_clear mt_clear hv rfl hline) fun σ H Q q => ?_) rfl rfl rfl
  obtain ⟨α, F, ρ, r, ρ', E, ev, k⟩ := q
  simp only [evX] at ev
  split at ev
  · rename_i p ds e0
    cases ev
    obtain ⟨a0, xs0, h1, h2, h3, h4, _⟩ := E.own i p ds e0
    obtain ⟨E', st⟩ := E.write (ds' := []) (xs' := []) e0 h1 .nil
    exact ⟨.ref a0, h1, .inl ⟨rfl, xs0, .of h2⟩, a0, xs0, rfl, rfl, h2, k .non F _ (.after st (.of_made E' (made_same E'.sub .non)))⟩
  · cases ev
theorem strs_are {K : PySem.W.Frag} {F : Hp} : ∀ {vs : List V} {ds : List PD} {ys : List Str}, RpAll K F vs ds → strsOf ds = some ys → vs = ys.map V.str
  | _, _, _, .nil, h => by simp only [strsOf] at h; cases h; rfl
  | _, _, _, .cons q t, h => by
    cases q <;> simp only [strsOf] at h <;> try cases h
    cases e : strsOf _ with
    | none => rw [e] at h; cases h
    | some l =>
      rw [e] at h
      cases h
      rw [List.map_cons, strs_are t e]
theorem strs_rp {K : PySem.W.Frag} {F : Hp} : ∀ ys : List Str, RpAll K F (ys.map V.str) (ys.map PyData.str)
  | [] => .nil
  | y :: ys => .cons (.str y) (strs_rp ys)
/-- a rule on a text and operands, by their data -/
def MtD (X : Cx) (id : String) (g : Str → List PD → Option Slo) : Prop := MtR X id (fun x vs H Q => ∃ F z ds r, x = .str z ∧ Same F H ∧ Paired (fun v d => Vp X.K F H v d) vs ds ∧ g z ds = some r ∧ ∀ v F' H', Made X.K F H r v F' H' → Q v H')
theorem md_find : MtD X "str.find" (mtD .find) := by
  intro pins s σ H x vs v us Q I rx rv h
  obtain ⟨F, z, ds, r, rfl, sm, w, hg, q⟩ := h
  unfold mtD at hg
  split at hg <;> try (first | cases hg; done | (rename_i hb _; cases hb; done) | (rename_i hb; cases hb; done))
  · cases hg
    obtain ⟨v1, rfl, w1⟩ := one_of w
    cases w1.str
    exact mt_find pins s σ H _ _ v us Q I rx rv ⟨_, _, rfl, rfl, q _ _ _ (made_same sm (.int _))⟩
  · cases hg
    obtain ⟨v1, v2, rfl, w1, w2⟩ := two_of w
    cases w1.str
    cases w2.int
    exact mt_find3 pins s σ H _ _ v us Q I rx rv ⟨_, _, _, rfl, rfl, q _ _ _ (made_same sm (.int _))⟩
theorem md_split : MtD X "str.split" (mtD .split) := by
  intro pins s σ H x vs v us Q I rx rv h
  obtain ⟨F, z, ds, r, rfl, sm, w, hg, q⟩ := h
  unfold mtD at hg
  split at hg <;> try (first | cases hg; done | (rename_i hb _; cases hb; done) | (rename_i hb; cases hb; done))
  obtain ⟨hc, rfl⟩ := some_of_ite hg
  obtain ⟨v1, rfl, w1⟩ := one_of w
  cases w1.str
  exact mt_split pins s σ H _ _ v us Q I rx rv ⟨_, _, rfl, rfl, hc.1, hc.2, fun p hp => q _ _ _ (made_lst sm hp (strs_rp _))⟩
theorem md_join : MtD X "str.join" (mtD .join) := by
  intro pins s σ H x vs v us Q I rx rv h
  obtain ⟨F, z, ds, r, rfl, sm, w, hg, q⟩ := h
  unfold mtD at hg
  split at hg <;> try (first | cases hg; done | (rename_i hb _; cases hb; done) | (rename_i hb; cases hb; done))
  · split at hg
    · rename_i ys e
      obtain ⟨hc, rfl⟩ := some_of_ite hg
      obtain ⟨v1, rfl, w1⟩ := one_of w
      obtain ⟨a, xs, rfl, h1, h2⟩ := w1.list sm
      have e2 := strs_are h2 e
      subst e2
      exact mt_join pins s σ H _ _ v us Q I rx rv ⟨_, a, _, rfl, rfl, .inl h1.sq, hc, q _ _ _ (made_same sm (.str _))⟩
    · cases hg
  · split at hg
    · rename_i ys e
      obtain ⟨hc, rfl⟩ := some_of_ite hg
      obtain ⟨v1, rfl, w1⟩ := one_of w
      obtain ⟨a, xs, rfl, h1, h2⟩ := w1.tuple sm
      have e2 := strs_are h2 e
      subst e2
      exact mt_join pins s σ H _ _ v us Q I rx rv ⟨_, a, _, rfl, rfl, .inr h1, hc, q _ _ _ (made_same sm (.str _))⟩
    · cases hg
def mtOf (x : Str) : Option Mt := if x = "find" then some .find else if x = "split" then some .split else if x = "join" then some .join else none
theorem tames_few {env : PySem.Env} {p : Pos} {es : List Expr} (h : tames es = true) (n : es.length < 20) : ((backTo p (starEach es env)).all (fun x => !x.1) && (backToKw p (keywordEach [] env)).all (fun x => x.1.isSome)
      && decide (es.length + ([] : List Keyword).length + (if ([] : List Keyword).isEmpty then 0 else 1) < 30)) = true := by
  have a := tames_any (env := env) (p := p) h
  have b : (backTo p (starEach es env)).all (fun x => !x.1) = true := by
    rw [List.all_eq_true]
    intro y hy
    cases c : y.1 with
    | false => rfl
    | true =>
      have z : (backTo p (starEach es env)).any (·.1) = true := List.any_eq_true.mpr ⟨y, hy, c⟩
      rw [a] at z; cases z
  rw [b]
  have c : (backToKw p (keywordEach [] env)).all (fun x => x.1.isSome) = true := rfl
  rw [c]
  exact decide_eq_true (by simp; omega)
theorem dx_meth {o e : Expr} {io : Ir} {x : Str} {m : Mt} {apos : Pos} (hm : mtOf x = some m) (ho : DX X C o io) (hb : attributeBase o x X.env (eval o X.env) = eval o X.env) (h : DL X C true (e :: es) ir) (hline : (apos.endLine == pos.line) = true) (few : (e :: es).length < 20) : DX X C (.Call (.Attribute o x apos) (e :: es) [] pos) (.meth m io ir) := by
  have h1 : tame e = true ∧ tames es = true := Bool.and_eq_true_iff.mp h.tm
  have s1 := tame_star h1.1 es X.env
  have s2 := tames_any (env := X.env) (p := pos) h1.2
  have fw := tames_few (p := pos) (env := X.env) h.tm few
  have go : ∀ (id : String), Slot "str" x id → typeOf (.builtin id) = pure (.type "method_descriptor") → MtD X id (mtD m) → DX X C (.Call (.Attribute o x apos) (e :: es) [] pos) (.meth m io ir) := by
    intro id sl ty md
    refine .mk' (pe_mono (pe_bm PySem.F.plainAttrs_str sl ty md (ho.o true) h.a hb fw hline s1 s2) fun σ H Q q => ?_) rfl rfl rfl
    obtain ⟨α, F, ρ, r, ρ', E, ev, k⟩ := q
    simp only [evX] at ev
    split at ev
    · cases ev
    · rename_i xo ρ1 e1
      split at ev
      · rename_i z f1
        split at ev
        · cases ev
        · rename_i xs ρ2 e2
          split at ev
          · cases ev
          · rename_i ds f2
            split at ev
            · rename_i r' f3
              cases ev
              refine ⟨α, F, ρ, xo, ρ1, E, e1, fun v F1 H1 A => ?_⟩
              have w1 := (view_of A.er A.rep f1).str
              subst w1
              exact ⟨rfl, α, F1, ρ1, xs, ρ', A.er, e2, fun vs F2 H2 B => ⟨F2, z, ds, r, rfl, B.er.sub, paired_read B.er B.rep f2, f3, fun u F' H' M => k u F' H' (.after (A.st.trans B.st) (.of_made B.er M))⟩⟩
            · cases ev
      · cases ev
  unfold mtOf at hm
  by_cases c1 : x = "find"
  · subst c1; rw [if_pos rfl] at hm; cases hm; exact go _ PySem.F.slot_str_find PySem.F.type_str_find md_find
  rw [if_neg c1] at hm
  by_cases c1 : x = "split"
  · subst c1; rw [if_pos rfl] at hm; cases hm; exact go _ PySem.F.slot_str_split PySem.F.type_str_split md_split
  rw [if_neg c1] at hm
  by_cases c1 : x = "join"
  · subst c1; rw [if_pos rfl] at hm; cases hm; exact go _ PySem.F.slot_str_join PySem.F.type_str_join md_join
  rw [if_neg c1] at hm
  cases hm
end
end Dv

set_option Elab.async false
set_option linter.all false
set_option maxRecDepth 100000
set_option maxHeartbeats 8000000
/-! promises of defs where no repr is under way -/
namespace Dv
open PySem PySem.Spec PyProof.Rows L2
/-- a def keeps its promise, called while nothing is being shown -/
structure FnG (P : Program) (w : World) (K : PySem.W.Frag) (mg : Str → Option Value) (base : Heap) (k : Nat) (f : Addr) (fd : FuncData) (ps : List Str) (sp : Sp) : Prop where
  len : ∀ vs H Q E, sp vs H Q E → vs.length = ps.length
  run : ∀ (A : Around) (fr : List PySem.Env) (s : Shared) (H : Hp) (as : Args) (us : List Value) (vs : List V) (Q : VK) (E : XK), Room k A → A.guards = some [] →
    Env0 P w K mg base A fr s H → BindsTo s fd as (ps.zip us) → Vals vs us → sp vs H Q E → codeAny (model P w) A (.call (.ref f) as) (CR CX0 fr P w H s Q E) s
section
variable {X : Cx} {k : Nat} {f : Addr} {fd : FuncData} {ps : List Str} {sp sp0 : Sp} {x : Str} {p pos : Pos} {e : Expr} {es : List Expr} {t : TA} {ds : List Value} {dvs : List V}
theorem run_G {pins : List (Addr × Obj)} {σ : L2.St} {H : Hp} {s : Shared} {Q : VK} {us : List Value} {vs : List V} (F : FnG X.prog X.w X.K X.mg X.base k f fd ps sp0) (rd : Vals dvs ds) (cv : ∀ vs H Q E, sp vs H Q E → sp0 (vs ++ dvs) H Q E) (hr : Room k X.A) (gd : X.A.guards = some []) (hb : Binds X.K fd ps ds)
    (I : Inv X pins σ H s) (r : Vals vs us) (h : sp vs H Q E0) : wpAny (model X.prog X.w) X.A (call (.ref f) us) (EP X pins σ Q) X.xe s := by
  have h := cv _ _ _ _ h
  have r2 := r.append rd
  have hl : (us ++ ds).length = ps.length := r2.length.symm.trans (F.len _ _ _ _ h)
  have hb1 := hb s us I.kIn hl
  refine wpAny_call (codeAny_mono (F.run X.A X.stack s H ⟨us, []⟩ (us ++ ds) (vs ++ dvs) Q E0 hr gd I.env0 hb1 r2 h) ?_)
  intro res s' hq
  match res, hq with
  | .error _, hq => exact hq.elim
  | .ok (.ret u), hq => exact I.after hq
  | .ok .next, hq => exact hq.elim
  | .ok .brk, hq => exact hq.elim
  | .ok .cont, hq => exact hq.elim
theorem pe_G (F : FnG X.prog X.w X.K X.mg X.base k f fd ps sp0) (rd : Vals dvs ds) (cv : ∀ vs H Q E, sp vs H Q E → sp0 (vs ++ dvs) H Q E) (hr : Room k X.A) (gd : X.A.guards = some []) (hg : Gl X x) (hm : X.mg x = some (.ref f)) (hk : PySem.W.keepIn X.K (.ref f) = true) (hb : Binds X.K fd ps ds)
    (ha : PA X (e :: es) t) (hdb : (x == ("__debug__" : Str)) = false) (he : starEach (e :: es) X.env = (false, eval e X.env) :: starEach es X.env) (hpl : (backTo pos (starEach es X.env)).any (·.1) = false) :
    PE X (.Call (.Name x p) (e :: es) [] pos) (fun σ H Q => t σ H fun vs H1 => sp vs H1 Q E0) :=
  ⟨fun pins s σ H Q I h => wpAny_Call_Name_kw (ld_glob I hg hm (PySem.W.callWith_K (h₀ := X.base) I.ok.mod.kin hk (thn (ha.run pos pins s σ H _ I h) fun us s1 q => by
    obtain ⟨vs, H1, I1, r, q⟩ := q
    exact ⟨I1.kIn, run_G F rd cv hr gd hb I1 r q⟩) he hpl) hdb)⟩
theorem pe_G0 (F : FnG X.prog X.w X.K X.mg X.base k f fd ps sp0) (rd : Vals dvs ds) (cv : ∀ vs H Q E, sp vs H Q E → sp0 (vs ++ dvs) H Q E) (hr : Room k X.A) (gd : X.A.guards = some []) (hg : Gl X x) (hm : X.mg x = some (.ref f)) (hk : PySem.W.keepIn X.K (.ref f) = true) (hb : Binds X.K fd ps ds)
    (hdb : (x == ("__debug__" : Str)) = false) : PE X (.Call (.Name x p) [] [] pos) (fun _ H Q => sp [] H Q E0) :=
  ⟨fun pins s σ H Q I h => wpAny_Call_Name_kw (ld_glob I hg hm (PySem.W.callWith_K0 I.kIn hk (run_G (us := []) F rd cv hr gd hb I .nil h)) hdb)⟩
end
/-- a def's promise from its body -/
theorem fnG_of {P : Program} {w : World} {K : PySem.W.Frag} {mg : Str → Option Value} {base : Heap} {x qual : Str} {st : Stmt} {f : Addr} {fd : FuncData} {N ps : List Str} {k : Nat} {sp : Sp} (Fn : Fun K x qual st f fd) (S : FnScope N ps (defScope st))
    (len : ∀ vs H Q E, sp vs H Q E → vs.length = ps.length)
    (hb : ∀ (cdv : Value) (A : Around) (fr : List PySem.Env) (s : Shared) (H : Hp) (vs : List V) (Q : VK) (E : XK), Room k (A.deeper (envOfC qual (defScope st) s.heap.objs.size f cdv)) → A.guards = some [] → sp vs H Q E →
      ∃ t, PSs (cxOf CX0 P w K mg base N qual (defScope st) f cdv A fr s H E).nox (defBody st) t ∧ t { nx := fun _ H' => Q .non H', rt := Q } (L2.start N vs) H) : FnG P w K mg base (k + 1) f fd ps sp := by
  obtain ⟨oc, od, kV, doc, pm, an, cdv, ct, osl, rfl, lk, hcd⟩ := Fn.ex
  refine ⟨len, fun A fr s H as us vs Q E hr gd e0 bd r hsp => ?_⟩
  have up : ∀ b o, base.get? b = some o → s.heap.get? b = some o := fun b o e => (e0.bs b o e).1
  have kin : K.In s.heap := e0.mod.kin.keeps up
  have par : ∀ y ∈ ps.zip us, (defScope st).names.lookup y.1 = some .local ∨ ((defScope st).names.lookup y.1 = some .cell ∧ ((cellsFrom (s.heap.objs.size + 1) (defScope st).names []).lookup y.1).isSome = true) := by
    intro y hy
    rcases S.par y.1 (List.of_mem_zip hy).1 with q | q
    · exact Or.inl q
    · exact Or.inr ⟨q, PySem.W.cellsFrom_some _ _ _ (Or.inl q)⟩
  refine codeAny_call_function hr.depth (kin _ _ lk) rfl S.co S.gen rfl (PySem.W.codeRec_of kin hcd) (bd _ _ _ _ (wpAny_newFunctionEnv_cells S.kind par ?_))
  intro env he s1 hx
  subst he
  refine ⟨(e0.mod.nolimit.keeps up).keeps hx.toInCall.keep, codeAny_func ?_⟩
  obtain ⟨t, ht, hq⟩ := hb cdv A fr s H vs Q E (hr.deeper _) gd hsp
  have J := inv_start (CX := CX0) (E := E) S hr.hd e0 (len _ _ _ _ hsp) r hx
  refine wpAny_mono (ht.nox.run [] s1 (L2.start N vs) H _ J hq) ?_ fun _ _ z => z
  intro fl s' hs
  match fl, hs with
  | .ret u, hs =>
    obtain ⟨v, σ', H', J', rv, q⟩ := hs
    exact ⟨v, H', J'.os, J'.bare, J'.base, J'.hok, rv, q⟩
  | .next, hs =>
    obtain ⟨σ', H', J', q⟩ := hs
    exact ⟨.non, H', J'.os, J'.bare, J'.base, J'.hok, rfl, q⟩
  | .brk, hs =>
    obtain ⟨_, _, _, q⟩ := hs
    exact q.elim
  | .cont, hs =>
    obtain ⟨_, _, _, q⟩ := hs
    exact q.elim

/-! ### the law is called -/
/-- what the law's def is to promise: True, whatever the script -/
def Wins (K : PySem.W.Frag) (sp : Sp) : Prop := ∀ (H : Hp) (a : Addr) (ns : List Int), ns.length ≤ 63 → LsR K H a (ns.map V.int) → sp [.ref a] H (fun v _ => v = .bl true) E0
theorem law_G {P : Program} {w : World} {K : PySem.W.Frag} {mg mb : Str → Option Value} {k : Nat} {fa a : Addr} {fd : FuncData} {x : Str} {sp : Sp} {s : Shared} {vs : List Value} {ns : List Int}
    (KX : K.In s.heap) (hns : s.heap.Ns mainGlobals mg) (hb : s.heap.Ns builtinsNs mb) (hbb : ∀ y : Str, y ≠ "__name__" → mb y = bootBuiltins y) (lim : s.heap.NoLimit) (hg : s.gens = #[])
    (ha : s.heap.get? a = some { cls := .type "list", data := .seq vs.toArray }) (hi : IntsAre vs ns) (hl : ns.length ≤ 63) (hr : Room k callerA)
    (F : ∀ base : Heap, K.In base → base.Ns mainGlobals mg → FnG P w K mg base k fa fd [x] sp) (bd : ∀ (s : Shared) (u : Value), BindsTo s fd ⟨[u], []⟩ [(x, u)]) (win : Wins K sp) :
    codeAny (model P w) callerA (.call (.ref fa) ⟨[.ref a], []⟩) (fun r s' => r = .ok (.ret (.bool true)) ∧ OldK s.heap s'.heap ∧ s'.os = s.os ∧ AllBare s'.gens) s := by
  have rv := vals_ints hi
  have l63 : (63 : Nat) ≤ sizeLine := by decide
  have nlen : (ns.map V.int).length ≤ sizeLine := by rw [List.length_map]; exact Nat.le_trans hl l63
  let ob : Obj := { cls := .type "list", data := .seq vs.toArray }
  -- the script is held, unless it is written
  have core : ∀ H : Hp, (∀ b, H b = none ∨ (b = a ∧ H b = some (.frz ob (.lst (ns.map V.int))))) → LsR K H a (ns.map V.int) → (H a ≠ none → K.lookup a = none) →
      codeAny (model P w) callerA (.call (.ref fa) ⟨[.ref a], []⟩) (fun r s' => r = .ok (.ret (.bool true)) ∧ OldK s.heap s'.heap ∧ s'.os = s.os ∧ AllBare s'.gens) s := by
    intro H only hL hka
    have hok : HOk P w H s.heap := fun b u z => by
      rcases only b with c | ⟨rfl, c⟩
      · rw [c] at z; cases z
      · rw [c] at z
        cases z
        exact ⟨ha, nlen, vs, _, rv, ha⟩
    have free_dict : ∀ {b : Addr} {o : Obj} {ds : Array DictEntry} {n : Nat}, s.heap.get? b = some o → o.data = .dict ds n → H b = none := fun {b o ds n} e d => by
      rcases only b with c | ⟨rfl, c⟩
      · exact c
      · rw [ha] at e
        cases e
        cases (show Data.seq vs.toArray _ = Data.dict ds n from d)
    have down : ∀ {b : Addr} {m : Str → Option Value}, s.heap.Ns b m → (hidT s.heap H).Ns b m := fun {b m} ⟨o, ds, n, e, d, q⟩ => ⟨o, ds, n, hidT_get e (free_dict e d), d, q⟩
    have kb : K.In (hidT s.heap H) := fun b o e => hidT_get (KX b o e) (by
      rcases only b with c | ⟨rfl, c⟩
      · exact c
      · rw [hka (by rw [c]; exact fun z => nomatch z)] at e; cases e)
    obtain ⟨mc, c1, c2⟩ := lim
    have md : Mod K mg (hidT s.heap H) := ⟨kb, down hns, ⟨mb, down hb, hbb⟩, ⟨mc, down c1, c2⟩⟩
    have e0 : Env0 P w K mg (hidT s.heap H) callerA [] s H := ⟨rfl, md, fun b o e => of_hidT e, Nat.le_of_eq (hidT_size _ _), trivial, fun b z => absurd (show b ∈ ([] : List Addr) from z) (by simp), hok, .of_eq hg⟩
    refine codeAny_mono ((F _ kb (down hns)).run callerA [] s H ⟨[.ref a], []⟩ [.ref a] [.ref a] _ _ hr rfl e0 (bd s (.ref a)) (.cons rfl .nil) (win H a ns hl hL)) ?_
    intro r s' h
    match r, h with
    | .error _, h => exact h.elim
    | .ok .next, h => exact h.elim
    | .ok .brk, h => exact h.elim
    | .ok .cont, h => exact h.elim
    | .ok (.ret u), h =>
      obtain ⟨v, H', os, bare, un, hok', r', q⟩ := h
      have q : v = .bl true := q
      subst q
      have r' : u = Value.bool true := r'
      subst r'
      refine ⟨rfl, OldK.of_keep fun b o e => ?_, os, bare⟩
      rcases only b with c | ⟨rfl, c⟩
      · exact un.keep b o e c (fun z => absurd (show b ∈ ([] : List Addr) from z) (by simp)) (by simp)
      · have z := hok' b _ (un.frzs b ob _ c)
        rw [ha] at e
        cases e
        exact z.1
  cases hk : K.lookup a with
  | some o =>
    have e := KX a o hk
    rw [ha] at e
    cases e
    exact core (fun _ => none) (fun _ => .inl rfl) (.inr ⟨vs, _, hk, nlen, rv⟩) fun z => absurd rfl z
  | none =>
    refine core (fun b => if b = a then some (.frz ob (.lst (ns.map V.int))) else none) (fun b => ?_) (.inl (.inr ⟨ob, if_pos rfl⟩)) fun _ => hk
    by_cases c : b = a
    · exact .inr ⟨c, if_pos c⟩
    · exact .inl (if_neg c)
/-- the goal behind the head -/
theorem walk_G {l : PySem.W.OpenLaw} {k : Nat} {q : Program} {loose : List Str} {XP : (Str → Option Value) → Heap → Prop} {YP : World → Heap → Prop} {d : DefRec} {K : Params → PySem.W.Frag} {sp : PySem.W.Frag → Sp} {x : Str}
    (hn : l.most = some 63) (hdf : d.params.defaults = []) (hr : Room k callerA) (hY : ∀ (w : World) (h : Heap), YP w h → (K w.params).In h)
    (F : ∀ (w : World) (mg : Str → Option Value) (fa : Addr) (h : Heap), (K w.params).In h → h.Ns mainGlobals mg → mg d.name = some (.ref fa) →
      ∃ fd : FuncData, (∀ (s : Shared) (u : Value), BindsTo s fd ⟨[u], []⟩ [(x, u)]) ∧ ∀ base : Heap, (K w.params).In base → base.Ns mainGlobals mg → FnG l.prog w (K w.params) mg base k fa fd [x] (sp (K w.params)))
    (win : ∀ K, Wins K (sp K)) : PySem.W.WalkO q loose XP YP l.row.toRowW d [] (fun f vs => PySem.call f vs) := by
  refine Att.attach_call hn hdf fun w s₀ s mg mb fa o pm cd doc a vs ns G Y ho hd hcd hmg hobj hints hlen hg => ?_
  have KX := hY w _ Y
  obtain ⟨fd, bd, hF⟩ := F w mg fa _ KX G.T.g hmg
  exact law_G KX G.T.g G.T.b G.T.builtins G.T.nolimit hg hobj hints hlen hr hF bd (win _)
end Dv

set_option Elab.async false
set_option linter.all false
set_option maxRecDepth 100000
set_option maxHeartbeats 4000000
/-! calls of the text's own defs -/
namespace Dv
open PySem PySem.Spec PyProof.Rows L2
/-- what a def promises: φ of its arguments' data -/
def spF (K : PySem.W.Frag) (np : Nat) (φ : DEn → Option (Slo × DEn)) : Sp := fun vs H Q _ => ∃ α F as r os, vs.length = np ∧ ER K α F H as (vs.map some) ∧ φ as = some (r, os) ∧
  ∀ v F' H', Aft K α (OwnA as (vs.map some)) F H (vs.map some) os r v F' H' → Q v H'
structure FnD (X : Cx) (k : Nat) (x : Str) (np : Nat) (φ : DEn → Option (Slo × DEn)) : Prop where
  ex : ∃ (fa : Addr) (fd : FuncData) (ps : List Str) (sp0 : Sp) (ds : List Value) (dvs : List V), FnG X.prog X.w X.K X.mg X.base k fa fd ps sp0 ∧ Vals dvs ds ∧ (∀ vs H Q E, spF X.K np φ vs H Q E → sp0 (vs ++ dvs) H Q E) ∧ X.mg x = some (.ref fa) ∧ PySem.W.keepIn X.K (.ref fa) = true ∧ Binds X.K fd ps ds

/-- the arguments' data stand to the operands -/
inductive AsOk (ρ : DEn) : List Opd → DEn → Prop
  | nil : AsOk ρ [] []
  | val {d : PD} {xs : List Opd} {as : DEn} : AsOk ρ xs as → AsOk ρ (.res (.val d) :: xs) (.val d :: as)
  | own {i : Nat} {p : Option Nat} {ds : List PD} {xs : List Opd} {as : DEn} : ρ[i]? = some (Slo.own p ds) → AsOk ρ xs as → AsOk ρ (.slot i :: xs) (.own none ds :: as)
theorem asOk_of {ρ : DEn} : ∀ {xs : List Opd} {as : DEn}, argsOf ρ xs = some as → AsOk ρ xs as
  | [], _, h => by simp only [argsOf] at h; cases h; exact .nil
  | .res r :: xs, _, h => by
    cases r with
    | un => simp only [argsOf] at h; cases h
    | own p ds => simp only [argsOf] at h; cases h
    | val d =>
      simp only [argsOf] at h
      split at h
      · rename_i as e
        cases h
        exact .val (asOk_of e)
      · cases h
  | .slot i :: xs, _, h => by
    simp only [argsOf] at h
    split at h
    · rename_i p ds as e1 e2
      cases h
      exact .own e1 (asOk_of e2)
    · cases h
theorem AsOk.len {ρ : DEn} {xs : List Opd} {as : DEn} (h : AsOk ρ xs as) : as.length = xs.length := by
  induction h with
  | nil => rfl
  | val _ ih => rw [List.length_cons, List.length_cons, ih]
  | own _ _ ih => rw [List.length_cons, List.length_cons, ih]
theorem AsOk.get {ρ : DEn} {xs : List Opd} {as : DEn} (h : AsOk ρ xs as) : ∀ (j : Nat) (s : Slo), as[j]? = some s →
    (∃ d, s = .val d ∧ xs[j]? = some (.res (.val d))) ∨ ∃ i p ds, s = .own none ds ∧ xs[j]? = some (.slot i) ∧ ρ[i]? = some (Slo.own p ds) := by
  induction h with
  | nil => intro j s e; simp at e
  | val _ ih =>
    intro j s e
    cases j with
    | zero => simp at e; subst e; exact .inl ⟨_, rfl, rfl⟩
    | succ j => simpa using ih j s (by simpa using e)
  | own e0 _ ih =>
    intro j s e
    cases j with
    | zero => simp at e; subst e; exact .inr ⟨_, _, _, rfl, rfl, e0⟩
    | succ j => simpa using ih j s (by simpa using e)
theorem slots_mem {xs : List Opd} {i : Nat} : i ∈ slotsOf xs ↔ ∃ j : Nat, xs[j]? = some (.slot i) := by
  induction xs with
  | nil => simp [slotsOf]
  | cons x xs ih =>
    have tl : (∃ j : Nat, (x :: xs)[j]? = some (.slot i)) ↔ x = .slot i ∨ ∃ j : Nat, xs[j]? = some (.slot i) := by
      constructor
      · rintro ⟨j, e⟩
        cases j with
        | zero => left; simpa using e
        | succ j => right; exact ⟨j, by simpa using e⟩
      · rintro (e | ⟨j, e⟩)
        · exact ⟨0, by simp [e]⟩
        · exact ⟨j + 1, by simpa using e⟩
    rw [tl, ← ih]
    cases x with
    | slot k =>
      simp only [slotsOf, List.mem_cons, Opd.slot.injEq]
      constructor
      · rintro (e | e); exact .inl e.symm; exact .inr e
      · rintro (e | e); exact .inl e.symm; exact .inr e
    | res r => simp [slotsOf]
theorem slots_uniq {xs : List Opd} (h : (slotsOf xs).Nodup) : ∀ {j k : Nat} {i : Nat}, xs[j]? = some (.slot i) → xs[k]? = some (.slot i) → j = k := by
  induction xs with
  | nil => intro j k i e; simp at e
  | cons x xs ih =>
    have h' : (slotsOf xs).Nodup := by
      cases x with
      | slot _ => exact (List.nodup_cons.mp h).2
      | res _ => exact h
    have hx : ∀ {i k : Nat}, x = .slot i → xs[k]? = some (.slot i) → False := fun {i k} e e2 => by
      subst e
      exact (List.nodup_cons.mp h).1 (slots_mem.mpr ⟨k, e2⟩)
    intro j k i e1 e2
    cases j with
    | zero =>
      cases k with
      | zero => rfl
      | succ k => exact (hx (by simpa using e1) (by simpa using e2)).elim
    | succ j =>
      cases k with
      | zero => exact (hx (by simpa using e2) (by simpa using e1)).elim
      | succ k => exact congrArg (· + 1) (ih h' (by simpa using e1) (by simpa using e2))
/-- what putBack does, slot by slot -/
theorem put_spec : ∀ {xs : List Opd} {os ρ ρ' : DEn}, (slotsOf xs).Nodup → putBack ρ xs os = some ρ' → ρ'.length = ρ.length ∧ (∀ i, i ∉ slotsOf xs → ρ'[i]? = ρ[i]?) ∧
    ∀ (j i : Nat), xs[j]? = some (.slot i) → ∃ p q ds ds', ρ[i]? = some (Slo.own p ds) ∧ os[j]? = some (Slo.own q ds') ∧ ρ'[i]? = some (Slo.own p ds')
  | [], os, ρ, ρ', _, h => by
    cases os with
    | nil => simp only [putBack] at h; cases h; exact ⟨rfl, fun _ _ => rfl, fun j i e => by simp at e⟩
    | cons _ _ => simp only [putBack] at h; cases h
  | .res r :: xs, os, ρ, ρ', nd, h => by
    cases os with
    | nil => simp only [putBack] at h; cases h
    | cons o os =>
      simp only [putBack] at h
      obtain ⟨h1, h2, h3⟩ := put_spec (xs := xs) nd h
      refine ⟨h1, h2, fun j i e => ?_⟩
      cases j with
      | zero => simp at e
      | succ j => simpa using h3 j i (by simpa using e)
  | .slot k :: xs, os, ρ, ρ', nd, h => by
    cases os with
    | nil => simp only [putBack] at h; cases h
    | cons o os =>
      cases o with
      | un => simp only [putBack] at h; cases h
      | val _ => simp only [putBack] at h; cases h
      | own q ds' =>
        simp only [putBack] at h
        split at h
        · rename_i p ds e0
          have nd' := List.nodup_cons.mp nd
          obtain ⟨h1, h2, h3⟩ := put_spec (xs := xs) nd'.2 h
          have hk : k < ρ.length := (List.getElem?_eq_some_iff.mp e0).1
          refine ⟨by rw [h1, List.length_set], fun i hi => ?_, fun j i e => ?_⟩
          · have hi' : i ≠ k ∧ i ∉ slotsOf xs := by
              simp only [slotsOf, List.mem_cons, not_or] at hi
              exact hi
            rw [h2 i hi'.2, List.getElem?_set_ne (Ne.symm hi'.1)]
          · cases j with
            | zero =>
              have e' : k = i := by simpa using e
              subst e'
              exact ⟨p, q, ds, ds', e0, rfl, by rw [h2 k nd'.1, List.getElem?_set_self hk]⟩
            | succ j =>
              obtain ⟨p', q', es, es', g1, g2, g3⟩ := h3 j i (by simpa using e)
              have ne : i ≠ k := by
                rintro rfl
                exact nd'.1 (slots_mem.mpr ⟨j, by simpa using e⟩)
              rw [List.getElem?_set_ne (Ne.symm ne)] at g1
              exact ⟨p', q', es, es', g1, by simpa using g2, g3⟩
        · cases h
section
variable {K : PySem.W.Frag}
theorem paired_get {K : PySem.W.Frag} {F H : Hp} {σ : L2.St} : ∀ {vs : List V} {xs : List Opd}, Paired (fun v x => RepO K F H σ v x) vs xs → ∀ {j : Nat} {x : Opd}, xs[j]? = some x → ∃ v, vs[j]? = some v ∧ RepO K F H σ v x
  | _, _, .nil, j, x, e => by simp at e
  | _, _, .cons r t, 0, x, e => by simp at e; subst e; exact ⟨_, rfl, r⟩
  | _, _, .cons r t, j + 1, x, e => by
    obtain ⟨v, h1, h2⟩ := paired_get t (j := j) (by simpa using e)
    exact ⟨v, by simpa using h1, h2⟩
theorem map_some_get {vs : List V} {j : Nat} {v : V} (h : vs[j]? = some v) : (vs.map some)[j]? = some (some v) := by
  rw [List.getElem?_map, h]; rfl
theorem of_map_some {vs : List V} {j : Nat} {v : V} (h : (vs.map some)[j]? = some (some v)) : vs[j]? = some v := by
  rw [List.getElem?_map] at h
  cases e : vs[j]? with
  | none => rw [e] at h; cases h
  | some w => rw [e] at h; cases h; rfl
/-- the arguments as an environment -/
theorem args_er {α : Nat → Addr} {F H : Hp} {ρ as : DEn} {σ : L2.St} {xs : List Opd} {vs : List V} (E : ER K α F H ρ σ) (r : Paired (fun v x => RepO K F H σ v x) vs xs) (nd : (slotsOf xs).Nodup) (h : AsOk ρ xs as) :
    ER K α F H as (vs.map some) where
  sub := E.sub
  len := by rw [h.len, List.length_map]; exact (Paired.length r).symm
  val := fun j d e => by
    rcases h.get j _ e with ⟨d', e1, e2⟩ | ⟨i, p, ds, e1, _⟩
    · cases e1
      obtain ⟨v, k1, k2⟩ := paired_get r e2
      exact ⟨v, map_some_get k1, k2⟩
    · cases e1
  own := fun j p ds e => by
    rcases h.get j _ e with ⟨d', e1, e2⟩ | ⟨i, p', ds', e1, e2, e3⟩
    · cases e1
    · cases e1
      obtain ⟨a, ys, k1, k2, k3, k4, _⟩ := E.own i p' ds e3
      obtain ⟨v, k5, k6⟩ := paired_get r e2
      have k6' : σ[i]? = some (some v) := k6
      rw [k1] at k6'
      cases k6'
      exact ⟨a, ys, map_some_get k5, k2, k3, k4, fun _ z => nomatch z⟩
  inj := fun j k p q ds es n e1 e2 => by
    rcases h.get j _ e1 with ⟨d', g1, _⟩ | ⟨i, p', ds', g1, g2, g3⟩
    · cases g1
    rcases h.get k _ e2 with ⟨d', g4, _⟩ | ⟨i', p'', ds'', g4, g5, g6⟩
    · cases g4
    intro z
    obtain ⟨v, k1, k2⟩ := paired_get r g2
    obtain ⟨u, k3, k4⟩ := paired_get r g5
    rw [map_some_get k1, map_some_get k3] at z
    cases z
    have k2' : σ[i]? = some (some v) := k2
    have k4' : σ[i']? = some (some v) := k4
    have ne : i ≠ i' := by
      rintro rfl
      exact n (slots_uniq nd g2 g5)
    exact E.inj i i' p' p'' ds' ds'' ne g3 g6 (by rw [k2', k4'])
theorem args_own {F H : Hp} {ρ as : DEn} {σ : L2.St} {xs : List Opd} {vs : List V} (r : Paired (fun v x => RepO K F H σ v x) vs xs) (h : AsOk ρ xs as) {b : Addr} (z : OwnA as (vs.map some) b) : ∃ i p ds, i ∈ slotsOf xs ∧ ρ[i]? = some (Slo.own p ds) ∧ σ[i]? = some (some (V.ref b)) := by
  obtain ⟨j, p, ds, e1, e2⟩ := z
  rcases h.get j _ e1 with ⟨d', g1, _⟩ | ⟨i, p', ds', g1, g2, g3⟩
  · cases g1
  · obtain ⟨v, k1, k2⟩ := paired_get r g2
    have e3 := of_map_some e2
    rw [e3] at k1
    cases k1
    exact ⟨i, p', ds', slots_mem.mpr ⟨j, g2⟩, g3, k2⟩
/-- behind the call: the caller's environment -/
theorem call_aft {α α' : Nat → Addr} {F H F' H' : Hp} {ρ as os ρ' : DEn} {σ : L2.St} {xs : List Opd} {vs : List V} {r0 : Slo} {v : V} (E : ER K α F H ρ σ) (r : Paired (fun v x => RepO K F H σ v x) vs xs) (nd : (slotsOf xs).Nodup) (h : AsOk ρ xs as)
    (pb : putBack ρ xs os = some ρ') (A : Aft K α' (OwnA as (vs.map some)) F H (vs.map some) os r0 v F' H') : Aft K α (OwnA ρ σ) F H σ ρ' r0 v F' H' := by
  obtain ⟨len, out, ins⟩ := put_spec nd pb
  have own_in : ∀ b, OwnA as (vs.map some) b → OwnA ρ σ b := fun b z => by
    obtain ⟨i, p, ds, _, e1, e2⟩ := args_own r h z
    exact ⟨i, p, ds, e1, e2⟩
  have notlent : ∀ (i : Nat) (p : Option Nat) (ds : List PD) (b : Addr), i ∉ slotsOf xs → ρ[i]? = some (Slo.own p ds) → σ[i]? = some (some (V.ref b)) → ¬ OwnA as (vs.map some) b := fun i p ds b hi e1 e2 z => by
    obtain ⟨j, q, es, hj, e3, e4⟩ := args_own r h z
    have ne : i ≠ j := fun c => hi (c ▸ hj)
    exact E.inj i j p q ds es ne e1 e3 (by rw [e2, e4])
  have slot_in : ∀ i, i ∈ slotsOf xs → ∃ (p q : Option Nat) (ds ds' : List PD) (a : Addr) (ys : List V), ρ[i]? = some (Slo.own p ds) ∧ ρ'[i]? = some (Slo.own p ds') ∧ σ[i]? = some (some (V.ref a)) ∧ (∃ j : Nat, os[j]? = some (Slo.own q ds') ∧ (vs.map some)[j]? = some (some (V.ref a))) ∧
      H' a = some (.lst ys) ∧ F' a = none ∧ RpAll K F' ys ds' := fun i hi => by
    obtain ⟨j, hj⟩ := slots_mem.mp hi
    obtain ⟨p, q, ds, ds', e1, e2, e3⟩ := ins j i hj
    obtain ⟨a, ys, k1, _⟩ := E.own i p ds e1
    obtain ⟨u, k2, k3⟩ := paired_get r hj
    have k3' : σ[i]? = some (some u) := k3
    rw [k1] at k3'
    cases k3'
    obtain ⟨a2, zs, m1, m2, m3, m4, _⟩ := A.er.own j q ds' e2
    rw [map_some_get k2] at m1
    cases m1
    exact ⟨p, q, ds, ds', a, zs, e1, e3, k1, ⟨j, e2, map_some_get k2⟩, m2, m3, m4⟩
  have own_back : ∀ b, OwnA ρ' σ b → OwnA ρ σ b ∧ (OwnA as (vs.map some) b → OwnA os (vs.map some) b) := fun b ⟨i, p, ds, e1, e2⟩ => by
    by_cases hi : i ∈ slotsOf xs
    · obtain ⟨p', q, es, es', a, ys, g1, g2, g3, ⟨j, g4, g5⟩, _⟩ := slot_in i hi
      rw [e2] at g3
      cases g3
      exact ⟨⟨i, p', es, g1, e2⟩, fun _ => ⟨j, q, es', g4, g5⟩⟩
    · rw [out i hi] at e1
      exact ⟨⟨i, p, ds, e1, e2⟩, fun z => absurd z (notlent i p ds b hi e1 e2)⟩
  refine ⟨⟨A.er.sub, len.trans E.len, fun i d e => ?_, fun i p ds e => ?_, fun i j p q ds es n e1 e2 => ?_⟩, A.rep, fun b z w => ?_, ⟨A.st.ff, fun b o e n => A.st.keep b o e fun z => n (own_in b z), fun b o e n f => A.st.nof b o e (fun z => n (own_in b z)) f, fun b z => ?_, A.st.there⟩⟩
  · by_cases hi : i ∈ slotsOf xs
    · obtain ⟨p', q, es, es', a, ys, g1, g2, _⟩ := slot_in i hi
      rw [g2] at e; cases e
    · rw [out i hi] at e
      obtain ⟨w, k1, k2⟩ := E.val i d e
      exact ⟨w, k1, rp_mono A.st.ff _ _ k2⟩
  · by_cases hi : i ∈ slotsOf xs
    · obtain ⟨p', q, es, es', a, ys, g1, g2, g3, _, g5, g6, g7⟩ := slot_in i hi
      rw [g2] at e
      cases e
      obtain ⟨a', _, k1, _, _, _, k5⟩ := E.own i p es g1
      rw [g3] at k1
      cases k1
      exact ⟨a, ys, g3, g5, g6, g7, k5⟩
    · rw [out i hi] at e
      obtain ⟨a, ys, k1, k2, k3, k4, k5⟩ := E.own i p ds e
      have nl := notlent i p ds a hi e k1
      exact ⟨a, ys, k1, A.st.keep a _ k2 nl, A.st.nof a _ k2 nl k3, rpAll_mono A.st.ff _ _ k4, k5⟩
  · have bk : ∀ (i : Nat) (p : Option Nat) (ds : List PD), ρ'[i]? = some (Slo.own p ds) → ∃ ds', ρ[i]? = some (Slo.own p ds') := fun i p ds e => by
      by_cases hi : i ∈ slotsOf xs
      · obtain ⟨p', q, es, es', a, ys, g1, g2, _⟩ := slot_in i hi
        rw [g2] at e
        cases e
        exact ⟨_, g1⟩
      · rw [out i hi] at e; exact ⟨_, e⟩
    obtain ⟨_, f1⟩ := bk _ _ _ e1
    obtain ⟨_, f2⟩ := bk _ _ _ e2
    exact E.inj i j p q _ _ n f1 f2
  · -- the result is no owned list of the caller
    obtain ⟨w1, w2⟩ := own_back b w
    rcases A.st.oo b (.inr z) with c | c
    · exact A.dist b z (w2 c)
    · obtain ⟨i, p, ds, e1, e2⟩ := w1
      obtain ⟨a, ys, k1, k2, _⟩ := E.own i p ds e1
      rw [e2] at k1
      cases k1
      rw [c] at k2; cases k2
  · rcases z with z | z
    · exact .inl (own_back b z).1
    · exact (A.st.oo b (.inr z)).imp (own_in b) id
end
section
variable {X : Cx} {C : Cfg} {ir : Ir} {pos np : Pos} {es : List Expr} {e : Expr}
theorem call_weak {f n : Nat} {σ : L2.St} {H : Hp} {Q : VK} (q : tX X.K C (.call f ir) σ H Q) (hn : ∀ as r os, C.fn f as = some (r, os) → as.length = n) : tL X.K C false ir σ H fun vs H1 => spF X.K n (C.fn f) vs H1 Q E0 := by
  obtain ⟨α, F, ρ, r, ρ', E, ev, k⟩ := q
  simp only [evX] at ev
  split at ev
  · cases ev
  · rename_i xs ρ1 e1
    split at ev
    · rename_i nd
      split at ev
      · cases ev
      · rename_i as f1
        split at ev
        · cases ev
        · rename_i r' os f2
          split at ev
          · rename_i ρ2 f3
            cases ev
            refine ⟨α, F, ρ, xs, ρ1, E, e1, fun vs F1 H1 A => ?_⟩
            have ao := asOk_of f1
            have El := args_er A.er A.rep nd ao
            exact ⟨α, F1, as, r, os, by rw [← hn as r os f2, El.len, List.length_map], El, f2, fun v F' H' B => k v F' H' (.after A.st (call_aft A.er A.rep nd ao f3 B))⟩
          · cases ev
    · cases ev
theorem dx_call {kk f n : Nat} {x : Str} (Fd : FnD X kk x n (C.fn f)) (hn : ∀ as r os, C.fn f as = some (r, os) → as.length = n) (hr : Room kk X.A) (gd : X.A.guards = some []) (hg : Gl X x) (hdb : (x == ("__debug__" : Str)) = false) (h : DL X C false (e :: es) ir) : DX X C (.Call (.Name x np) (e :: es) [] pos) (.call f ir) := by
  obtain ⟨fa, fd, ps, sp0, ds, dvs, F, rd, cv, hm, hk, hb⟩ := Fd.ex
  have h1 : tame e = true ∧ tames es = true := Bool.and_eq_true_iff.mp h.tm
  exact .mk' (pe_mono (pe_G F rd cv hr gd hg hm hk hb h.a hdb (tame_star h1.1 es X.env) (tames_any h1.2)) fun σ H Q q => call_weak q hn) rfl rfl rfl
theorem dx_call0 {kk f n : Nat} {x : Str} (Fd : FnD X kk x n (C.fn f)) (hn : ∀ as r os, C.fn f as = some (r, os) → as.length = n) (hr : Room kk X.A) (gd : X.A.guards = some []) (hg : Gl X x) (hdb : (x == ("__debug__" : Str)) = false) : DX X C (.Call (.Name x np) [] [] pos) (.call f .nil) := by
  obtain ⟨fa, fd, ps, sp0, ds, dvs, F, rd, cv, hm, hk, hb⟩ := Fd.ex
  refine .mk' (pe_mono (pe_G0 F rd cv hr gd hg hm hk hb hdb) fun σ H Q q => ?_) rfl rfl rfl
  have q' := call_weak q hn
  obtain ⟨α, F, ρ, xs, ρ1, E, ev, k⟩ := q'
  simp only [evL] at ev
  cases ev
  exact k [] F H ⟨E, .nil, .refl⟩
end
end Dv

set_option Elab.async false
set_option linter.all false
set_option maxRecDepth 100000
set_option maxHeartbeats 4000000
/-! targets, what is walked, comprehensions -/
namespace Dv
open PySem PySem.Spec PyProof.Rows L2
/-! ### targets -/
def tgts : Ir → List Nat
  | .var i => [i]
  | .tup es => tgts es
  | .cons a b => tgts a ++ tgts b
  | _ => []
def tAsg (K : PySem.W.Frag) (t : Ir) : TG := fun v σ H Q => ∃ α F ρ d ρ', ER K α F H ρ σ ∧ Rp K F v d ∧ asg t d ρ = some ρ' ∧
  ∀ σ', ER K α F H ρ' σ' → (∀ b, OwnA ρ' σ' b → OwnA ρ σ b) → σ'.length = σ.length → (∀ j, j ∉ tgts t → σ'[j]? = σ[j]?) → Q σ' H
def tAsgs (K : PySem.W.Frag) (t : Ir) : TGs := fun vs σ H Q => ∃ α F ρ ds ρ', ER K α F H ρ σ ∧ RpAll K F vs ds ∧ asgs t ds ρ = some ρ' ∧
  ∀ σ', ER K α F H ρ' σ' → (∀ b, OwnA ρ' σ' b → OwnA ρ σ b) → σ'.length = σ.length → (∀ j, j ∉ tgts t → σ'[j]? = σ[j]?) → Q σ' H
section
variable {K : PySem.W.Frag}
theorem ER.setv {α : Nat → Addr} {F H : Hp} {ρ : DEn} {σ : L2.St} {i : Nat} {v : V} {d : PD} (E : ER K α F H ρ σ) (q : Rp K F v d) : ER K α F H (ρ.set i (.val d)) (σ.set i (some v)) ∧ ∀ b, OwnA (ρ.set i (.val d)) (σ.set i (some v)) b → OwnA ρ σ b := by
  have hin : ∀ (j : Nat) (q : Option Nat) (es : List PD), (ρ.set i (.val d))[j]? = some (Slo.own q es) → j ≠ i ∧ ρ[j]? = some (Slo.own q es) := fun j q es e => by
    by_cases c : j = i
    · subst c
      by_cases hj : j < ρ.length
      · rw [List.getElem?_set_self hj] at e; cases e
      · rw [List.getElem?_eq_none (by rw [List.length_set]; omega)] at e; cases e
    · rw [List.getElem?_set_ne (Ne.symm c)] at e; exact ⟨c, e⟩
  refine ⟨⟨E.sub, by rw [List.length_set, List.length_set]; exact E.len, fun j d' e => ?_, fun j p es e => ?_, fun j k p q es es' n e1 e2 => ?_⟩, fun b ⟨j, p, es, e1, e2⟩ => ?_⟩
  · by_cases c : j = i
    · subst c
      by_cases hj : j < ρ.length
      · rw [List.getElem?_set_self hj] at e
        cases e
        exact ⟨v, List.getElem?_set_self (by rw [← E.len]; exact hj), q⟩
      · rw [List.getElem?_eq_none (by rw [List.length_set]; omega)] at e; cases e
    · rw [List.getElem?_set_ne (Ne.symm c)] at e ⊢
      exact E.val j d' e
  · obtain ⟨c, e'⟩ := hin _ _ _ e
    rw [List.getElem?_set_ne (Ne.symm c)]
    exact E.own j p es e'
  · obtain ⟨c1, f1⟩ := hin _ _ _ e1
    obtain ⟨c2, f2⟩ := hin _ _ _ e2
    rw [List.getElem?_set_ne (Ne.symm c1), List.getElem?_set_ne (Ne.symm c2)]
    exact E.inj j k p q es es' n f1 f2
  · obtain ⟨c, e'⟩ := hin _ _ _ e1
    rw [List.getElem?_set_ne (Ne.symm c)] at e2
    exact ⟨j, p, es, e', e2⟩
end
section
variable {X : Cx} {pos : Pos}
theorem pg_mono {e : Expr} {t t' : TG} (h : PG X e t) (w : ∀ v σ H Q, t' v σ H Q → t v σ H Q) : PG X e t' := ⟨fun pins s σ H v u Q I r q => h.run pins s σ H v u Q I r (w v σ H Q q)⟩
theorem pgs_mono {e : List Expr} {t t' : TGs} (h : PGs X e t) (w : ∀ v σ H Q, t' v σ H Q → t v σ H Q) : PGs X e t' := ⟨fun pins s σ H v u Q I r q => h.run pins s σ H v u Q I r (w v σ H Q q)⟩
theorem pg_or {e : Expr} {t t' : TG} (h : PG X e t) (h' : PG X e t') : PG X e (fun v σ H Q => t v σ H Q ∨ t' v σ H Q) :=
  ⟨fun pins s σ H v u Q I r q => q.elim (fun q => h.run pins s σ H v u Q I r q) fun q => h'.run pins s σ H v u Q I r q⟩
theorem dg_name {i : Nat} {x : Str} (h : PG X (.Name x pos) (gName i)) : PG X (.Name x pos) (tAsg X.K (.var i)) := pg_mono h fun v σ H Q q => by
  obtain ⟨α, F, ρ, d, ρ', E, r, ev, k⟩ := q
  simp only [asg] at ev
  obtain ⟨hi, e⟩ := some_of_ite ev
  subst e
  obtain ⟨E', O⟩ := E.setv (i := i) r
  exact k _ E' O (List.length_set ..) fun j hj => List.getElem?_set_ne fun c => hj (by rw [← c]; exact List.mem_singleton.mpr rfl)
/-- a row of plain names -/
inductive Names (X : Cx) : List Expr → Ir → Prop
  | nil : Names X [] .nil
  | cons {x : Str} {p : Pos} {i : Nat} {es : List Expr} {t : Ir} : PG X (.Name x p) (gName i) → Names X es t → Names X (.Name x p :: es) (.cons (.var i) t)
theorem names_len {es : List Expr} {t : Ir} (h : Names X es t) (env : PySem.Env) : (assignEach es env).length = es.length := by
  induction h with
  | nil => rfl
  | cons _ _ ih => show (assignEach _ env).length + 1 = _; rw [ih]; rfl
theorem names_star {es : List Expr} {t : Ir} (h : Names X es t) (env : PySem.Env) : (assignEach es env).findIdx? (·.1) = none := by
  induction h with
  | nil => rfl
  | cons _ _ ih =>
    show ((false, _) :: assignEach _ env).findIdx? (·.1) = none
    rw [List.findIdx?_cons]
    simp [ih]
theorem names_pgs {es : List Expr} {t : Ir} (h : Names X es t) : PGs X es (tAsgs X.K t) := by
  induction h with
  | nil =>
    refine pgs_mono pgs_nil fun vs σ H Q q => ?_
    obtain ⟨α, F, ρ, ds, ρ', E, r, ev, k⟩ := q
    cases r with
    | nil =>
      simp only [asgs] at ev
      cases ev
      exact ⟨rfl, k σ E (fun _ z => z) rfl fun _ _ => rfl⟩
    | cons _ _ => simp only [asgs] at ev; cases ev
  | @cons x p i es t h1 _ ih =>
    refine pgs_mono (pgs_cons h1 ih rfl) fun vs σ H Q q => ?_
    obtain ⟨α, F, ρ, ds, ρ', E, r, ev, k⟩ := q
    cases r with
    | nil => simp only [asgs] at ev; cases ev
    | @cons v vs d ds r1 r2 =>
      simp only [asgs] at ev
      split at ev
      · obtain ⟨E', O⟩ := E.setv (i := i) r1
        refine ⟨v, vs, rfl, α, F, _, ds, ρ', E', r2, ev, fun σ' E2 O2 len out => k σ' E2 (fun b z => O b (O2 b z)) (by rw [len, List.length_set]) fun j hj => ?_⟩
        have hj' : j ≠ i ∧ j ∉ tgts t := by
          have : j ∉ [i] ++ tgts t := hj
          simpa [List.mem_append, not_or] using this
        rw [out j hj'.2, List.getElem?_set_ne (Ne.symm hj'.1)]
      · cases ev
theorem names_asgs_len {K : PySem.W.Frag} {es : List Expr} {t : Ir} (h : Names X es t) : ∀ {ds : List PD} {ρ ρ' : DEn}, asgs t ds ρ = some ρ' → ds.length = es.length := by
  induction h with
  | nil =>
    intro ds ρ ρ' e
    cases ds with
    | nil => rfl
    | cons _ _ => simp only [asgs] at e; cases e
  | cons _ _ ih =>
    intro ds ρ ρ' e
    cases ds with
    | nil => simp only [asgs] at e; cases e
    | cons d ds =>
      simp only [asgs] at e
      split at e
      · rw [List.length_cons, List.length_cons, ih e]
      · cases e
theorem dg_tup {es : List Expr} {t : Ir} {k : Nat} (hc : X.calm = true) (h : Names X es t) : PG X (.Tuple es k pos) (tAsg X.K (.tup t)) := by
  refine pg_mono (pg_or (pg_tup hc (names_pgs h) (names_len h X.env) (names_star h X.env)) (pg_unl hc (names_pgs h) (names_len h X.env) (names_star h X.env))) fun v σ H Q q => ?_
  obtain ⟨α, F, ρ, d, ρ', E, r, ev, k⟩ := q
  cases r with
  | @tup a xs ds r1 r2 =>
    simp only [asg] at ev
    have l := names_asgs_len (K := X.K) h ev
    exact .inl ⟨a, xs, rfl, sqt_mono E.sub r1, by rw [rpAll_len r2, l], α, F, ρ, ds, ρ', E, r2, ev, k⟩
  | @lst a xs ds r1 r2 =>
    simp only [asg] at ev
    have l := names_asgs_len (K := X.K) h ev
    exact .inr ⟨a, xs, rfl, (ls_mono E.sub r1).sq, by rw [rpAll_len r2, l], α, F, ρ, ds, ρ', E, r2, ev, k⟩
  | _ => simp only [asg] at ev; cases ev
end

/-! ### what is walked -/
structure ItD (K : PySem.W.Frag) (m : Bool) (F H : Hp) (ds : List PD) (J : It) (xs : List V) (P : Hp → Prop) (src : Addr → Prop) : Prop where
  rp : RpAll K F xs ds
  now : P H
  keep : ∀ H1 H2 : Hp, (∀ a o, src a → H1 a = some o → H2 a = some o) → P H1 → P H2
  go : ∀ i H1, P H1 → i < xs.length → J.go i H1
  yld : ∀ i H1 x H2, P H1 → i < xs.length → J.yld i H1 x H2 → H2 = H1 ∧ xs[i]? = some x
  stop : ∀ i H1, P H1 → xs.length ≤ i → J.stop i H1
  frz : m = false → ∀ a o, src a → H a = some o → F a = some o
def tIt (K : PySem.W.Frag) (C : Cfg) (m : Bool) (ir : Ir) : TI := fun σ H R => ∃ α F ρ ds ρ', ER K α F H ρ σ ∧ evI C m ir ρ = some (ds, ρ') ∧
  ∀ J F' H' xs P src, ER K α F' H' ρ' σ → Stp (OwnA ρ σ) (OwnA ρ' σ) F H F' H' → ItD K m F' H' ds J xs P src → R J H'
section
variable {X : Cx} {C : Cfg} {tg : Expr} {pos : Pos} {a b : Expr} {ia ib ir : Ir} {m : Bool}
theorem pi_mono {it : Expr} {t t' : TI} (h : PI X tg it t) (w : ∀ σ H R, t' σ H R → t σ H R) : PI X tg it t' := ⟨fun pins s σ H R I q => h.run pins s σ H R I (w σ H R q)⟩
/-- a list or a tuple, walked -/
def rSeq (K : PySem.W.Frag) (R : It → Hp → Prop) (x : V) (H1 : Hp) : Prop := (∃ a, x = .ref a ∧ (((∃ xs, SqL K H1 a xs) ∧ R (Itl K a) H1) ∨ ((∃ xs, SqT K H1 a xs) ∧ R (Itt K a) H1))) ∨ ∃ z, x = .str z ∧ R (Its z) H1
def iSeq (K : PySem.W.Frag) (tl : TE) : TI := fun σ H R => tl σ H (rSeq K R)
theorem pi_seq {l : Expr} {tl : TE} (hl : PE X l tl) : PI X tg l (iSeq X.K tl) := by
  refine ⟨fun pins s σ H R I h => ?_⟩
  refine thn (hl.run pins s σ H _ I h) fun v s1 ⟨x, H1, I1, r1, q⟩ => ?_
  rcases q with ⟨a, e, q⟩ | ⟨z, e, q⟩
  case inr =>
    subst e
    obtain ⟨t, rfl⟩ := r1
    cases ha : z.cps.all (· < 128)
    · exact wpAny_pyIter_wide ha (pi_one (tk := s1.toks) I1 _ (turn_str _ z t "str_iterator" (.inr rfl)) ⟨_, Heap.get?_push_size _ rfl, rfl, rfl⟩ q)
    · exact wpAny_pyIter_ascii ha (pi_one (tk := s1.toks) I1 _ (turn_str _ z t "str_ascii_iterator" (.inl rfl)) ⟨_, Heap.get?_push_size _ rfl, rfl, rfl⟩ q)
  subst e
  cases r1
  have fp : ∀ b ∈ [s1.heap.objs.size], FpOk X pins H1 b := fun b hb => by
    obtain rfl : b = s1.heap.objs.size := by simpa using hb
    exact I1.fpOk (Nat.le_refl _) I1.fresh
  rcases q with ⟨⟨xs, hq⟩, q⟩ | ⟨⟨xs, hq⟩, q⟩
  · obtain ⟨its, rv, p, hz⟩ := I1.list hq
    exact wpAny_pyIter_list p.isList ⟨_, [s1.heap.objs.size], _, _, H1, rfl, I1.kept (t' := s1.toks) fun b o e => Heap.get?_push_of_some _ e, turn_list a _, ⟨_, Heap.get?_push_size _ rfl, rfl, rfl⟩, fp, q⟩
  · obtain ⟨its, rv, p, hz⟩ := I1.tuple hq
    exact wpAny_pyIter_tuple (show s1.heap.IsTuple a its.toArray from p) ⟨_, [s1.heap.objs.size], _, _, H1, rfl, I1.kept (t' := s1.toks) fun b o e => Heap.get?_push_of_some _ e, turn_tuple a _, ⟨_, Heap.get?_push_size _ rfl, rfl, rfl⟩, fp, q⟩
/-- with what is known of the state -/
theorem pi_inv {it : Expr} {t t' : TI} (h : PI X tg it t) (w : ∀ pins s σ H R, Inv X pins σ H s → t' σ H R → t σ H R) : PI X tg it t' := ⟨fun pins s σ H R I q => h.run pins s σ H R I (w pins s σ H R I q)⟩
theorem pe_inv {e : Expr} {t t' : TE} (h : PE X e t) (w : ∀ pins s σ H Q, Inv X pins σ H s → t' σ H Q → t σ H Q) : PE X e t' := ⟨fun pins s σ H Q I q => h.run pins s σ H Q I (w pins s σ H Q I q)⟩
/-- at the end of an operand's evaluation the state is sound: a written object is not held -/
def tInv (X : Cx) (t : TE) : TE := fun σ H Q => t σ H fun v H1 => (∀ a o, X.K.lookup a = some o → H1 a = none) → Q v H1
theorem pe_tInv {e : Expr} {t : TE} (h : PE X e t) : PE X e (tInv X t) := ⟨fun pins s σ H Q I q => thn (h.run pins s σ H _ I q) fun v s1 ⟨x, H1, I1, r1, q1⟩ => ⟨x, H1, I1, r1, q1 fun a o e => (I1.bs a o (I1.mod.kin a o e)).2⟩⟩
theorem opd_frozen {e : Ir} {f : DEn → Option (Slo × DEn)} {ρ ρ' : DEn} {x : Opd} (h : opdOf false e f ρ = some (x, ρ')) : (∃ i, e = .lend i) ∨ ∃ d, x = .res (.val d) := by
  by_cases c : ∃ i, e = .lend i
  · exact .inl c
  · have h' : (match f ρ with
      | some (r, ρ1) => match frz r with
        | some d => some (Opd.res (.val d), ρ1)
        | none => none
      | none => none) = some (x, ρ') := by
      cases e <;> first | exact h | exact absurd ⟨_, rfl⟩ c
    split at h'
    · split at h'
      · cases h'; exact .inr ⟨_, rfl⟩
      · cases h'
    · cases h'
theorem chars_rp {K : PySem.W.Frag} {F : Hp} : ∀ l : List Nat, RpAll K F (l.map fun c => V.str ⟨#[c]⟩) (l.map fun c => PyData.str ⟨#[c]⟩)
  | [] => .nil
  | _ :: l => .cons (.str _) (chars_rp l)
theorem seq_it {K : PySem.W.Frag} {F H : Hp} {v : V} {d : PD} {ds : List PD} (sm : Same F H) (w : Vp K F H v d) (hs : itD d = some ds) (nk : ∀ a o, K.lookup a = some o → H a = none) (hf : m = false → Rp K F v d) {R : It → Hp → Prop}
    (k : ∀ J xs P src, ItD K m F H ds J xs P src → R J H) : rSeq K R v H := by
  unfold itD at hs
  split at hs
  · cases hs
    obtain ⟨a, xs, rfl, h1, h2⟩ := w.list sm
    refine .inl ⟨a, rfl, .inl ⟨⟨xs, h1.sq⟩, k (Itl K a) xs (fun H1 => LsR K H1 a xs) (fun b => b = a) ⟨h2, h1, fun H1 H2 kp p => ?_, fun i H1 p hi => ⟨xs, xs[i], p.sq, List.getElem?_eq_getElem hi⟩, fun i H1 x H2 p _ y => ⟨y.1, y.2 xs p.sq⟩, fun i H1 p hi => ⟨xs, p.sq, hi⟩, fun hm b o hb e => ?_⟩⟩⟩
    · rcases p with (p | ⟨o, p⟩) | p
      · exact .inl (.inl (kp a _ rfl p))
      · exact .inl (.inr ⟨o, kp a _ rfl p⟩)
      · exact .inr p
    · subst hb
      cases hf hm with
      | lst f1 _ =>
        rcases f1 with (f1 | ⟨o', f1⟩) | ⟨_, _, f1, _⟩
        · have e2 := sm _ _ f1; rw [e] at e2; cases e2; exact f1
        · have e2 := sm _ _ f1; rw [e] at e2; cases e2; exact f1
        · rw [nk _ _ f1] at e; cases e
  · cases hs
    obtain ⟨a, xs, rfl, h1, h2⟩ := w.tuple sm
    refine .inl ⟨a, rfl, .inr ⟨⟨xs, h1⟩, k (Itt K a) xs (fun H1 => SqT K H1 a xs) (fun b => b = a) ⟨h2, h1, fun H1 H2 kp p => ?_, fun i H1 p hi => ⟨xs, xs[i], p, List.getElem?_eq_getElem hi⟩, fun i H1 x H2 p _ y => ⟨y.1, y.2 xs p⟩, fun i H1 p hi => ⟨xs, p, hi⟩, fun hm b o hb e => ?_⟩⟩⟩
    · rcases p with (p | ⟨o, p⟩) | p
      · exact .inl (.inl (kp a _ rfl p))
      · exact .inl (.inr ⟨o, kp a _ rfl p⟩)
      · exact .inr p
    · subst hb
      cases hf hm with
      | tup f1 _ =>
        rcases f1 with (f1 | ⟨o', f1⟩) | ⟨o', _, _, f1, _⟩
        · have e2 := sm _ _ f1; rw [e] at e2; cases e2; exact f1
        · have e2 := sm _ _ f1; rw [e] at e2; cases e2; exact f1
        · rw [nk _ _ f1] at e; cases e
  · rename_i z
    cases hs
    rw [w.str]
    refine .inr ⟨z, rfl, k (Its z) (z.cps.toList.map fun c => V.str ⟨#[c]⟩) (fun _ => True) (fun _ => False) ⟨chars_rp _, trivial, fun _ _ _ _ => trivial, fun i H1 _ hi => ?_, fun i H1 x H2 _ hi y => ?_, fun i H1 _ hi => ?_, fun _ _ _ z => z.elim⟩⟩
    · rw [List.length_map] at hi; exact hi
    · obtain ⟨e1, c, e2, rfl⟩ := y
      refine ⟨e1, ?_⟩
      rw [List.getElem?_map, Array.getElem?_toList, e2]
      rfl
    · rw [List.length_map] at hi; exact hi
  · cases hs
def notLend : Ir → Bool
  | .lend _ => false
  | _ => true
theorem di_seq (hn : notLend ia = true) (ha : PE X a (tI X.K C m ia)) : PI X tg a (tIt X.K C m (.cons ia .nil)) := by
  refine pi_mono (pi_seq (pe_tInv ha)) fun σ H R q => ?_
  obtain ⟨α, F, ρ, ds, ρ', E, ev, k⟩ := q
  simp only [evI] at ev
  split at ev
  · cases ev
  · rename_i x ρ1 e1
    split at ev
    · cases ev
    · rename_i d f1
      split at ev
      · rename_i es f2
        cases ev
        refine ⟨α, F, ρ, x, ρ', E, e1, fun v F1 H1 A nk => ?_⟩
        refine seq_it (m := m) A.er.sub (view_of A.er A.rep f1) f2 nk (fun hm => ?_) fun J xs P src it => k J F1 H1 xs P src A.er A.st it
        subst hm
        rcases opd_frozen e1 with ⟨i, rfl⟩ | ⟨d', rfl⟩
        · cases hn
        · have e2 : some d' = some d := f1
          cases e2
          exact A.rep
      · cases ev
theorem int_it {K : PySem.W.Frag} {F H : Hp} {lo hi : Int} {ds : List PD} (h : rngD lo hi = some ds) : (-(2 ^ 62) ≤ lo ∧ lo < 2 ^ 62 ∧ -(2 ^ 62) ≤ hi ∧ hi < 2 ^ 62) ∧ ∃ xs, ItD K m F H ds (Itr lo (hi - lo).toNat) xs (fun _ => True) (fun _ => False) := by
  unfold rngD at h
  obtain ⟨hc, rfl⟩ := some_of_ite h
  have e1 : ((List.range (hi - lo).toNat).map fun (k : Nat) => PyData.int (lo + (k : Int))) = ((List.range (hi - lo).toNat).map fun (k : Nat) => lo + (k : Int)).map PyData.int := by rw [List.map_map]; rfl
  refine ⟨hc, ((List.range (hi - lo).toNat).map fun (k : Nat) => lo + (k : Int)).map V.int, by rw [e1]; exact rpAll_ints _, trivial, fun _ _ _ _ => trivial, fun i H1 _ hi' => ?_, fun i H1 x H2 _ hi' y => ?_, fun i H1 _ hi' => ?_, fun _ _ _ z => z.elim⟩
  · rw [List.length_map, List.length_map, List.length_range] at hi'
    exact hi'
  · obtain ⟨e2, e3⟩ := y
    rw [List.length_map, List.length_map, List.length_range] at hi'
    refine ⟨e2, ?_⟩
    rw [List.getElem?_map, List.getElem?_map, List.getElem?_range hi', e3]
    rfl
  · rw [List.length_map, List.length_map, List.length_range] at hi'
    exact hi'
theorem star1 {e : Expr} (h : tame e = true) (env : PySem.Env) : starEach [e] env = [(false, eval e env)] := tame_star h [] env
theorem di_rng1 {p : Pos} (hg : Gl X "range") (hm : X.mg "range" = none) (ha : DX X C a ia) : PI X tg (.Call (.Name "range" p) [a] [] pos) (tIt X.K C m (.rng1 ia)) := by
  refine pi_mono (pi_range1 hg hm (pa_cons ha.x pa_nil (tame_star ha.tm [] X.env)) (star1 ha.tm X.env)) fun σ H R q => ?_
  obtain ⟨α, F, ρ, ds, ρ', E, ev, k⟩ := q
  simp only [evI] at ev
  split at ev
  · rename_i j ρ1 e1
    split at ev
    · rename_i es f1
      cases ev
      refine ⟨α, F, ρ, _, ρ', E, e1, fun v F1 H1 A => ?_⟩
      obtain ⟨hc, xs, it⟩ := int_it (K := X.K) (m := m) (F := F1) (H := H1) f1
      have k1 := k _ F1 H1 xs _ _ A.er A.val it
      rw [Int.sub_zero] at k1
      exact ⟨j, by rw [int_rep A.rep], hc.2.2.1, hc.2.2.2, k1⟩
    · cases ev
  · cases ev
theorem di_rng2 {p : Pos} (hg : Gl X "range") (hm : X.mg "range" = none) (ha : DX X C a ia) (hb : DX X C b ib) : PI X tg (.Call (.Name "range" p) [a, b] [] pos) (tIt X.K C m (.rng2 ia ib)) := by
  have s1 := tame_star hb.tm [] X.env
  have s2 := tame_star ha.tm [b] X.env
  refine pi_mono (pi_range2 hg hm (pa_cons ha.x (pa_cons hb.x pa_nil s1) s2) (by rw [s2, s1]; rfl) s1) fun σ H R q => ?_
  obtain ⟨α, F, ρ, ds, ρ', E, ev, k⟩ := q
  simp only [evI] at ev
  split at ev
  · rename_i i ρ1 e1
    split at ev
    · rename_i j ρ2 e2
      split at ev
      · rename_i es f1
        cases ev
        refine ⟨α, F, ρ, _, ρ1, E, e1, fun v F1 H1 A => ⟨α, F1, ρ1, _, ρ', A.er, e2, fun u F2 H2 B => ?_⟩⟩
        obtain ⟨hc, xs, it⟩ := int_it (K := X.K) (m := m) (F := F2) (H := H2) f1
        exact ⟨i, j, by rw [int_rep A.rep, int_rep B.rep], ⟨hc.1, hc.2.1, hc.2.2.1, hc.2.2.2⟩, k _ F2 H2 xs _ _ B.er (A.val.trans B.val) it⟩
      · cases ev
    · cases ev
  · cases ev

/-! ### comprehensions -/
theorem wipeD_get {ρ : DEn} : ∀ {vs : List Nat} {j : Nat} {s : Slo}, (wipeD ρ vs)[j]? = some s → s = .un ∨ (j ∉ vs ∧ ρ[j]? = some s)
  | [], j, s, h => .inr ⟨by simp, h⟩
  | v :: vs, j, s, h => by
    unfold wipeD at h
    by_cases c : v = j
    · subst c
      by_cases hv : v < (wipeD ρ vs).length
      · rw [List.getElem?_set_self hv] at h; cases h; exact .inl rfl
      · rw [List.getElem?_eq_none (by rw [List.length_set]; omega)] at h; cases h
    · rw [List.getElem?_set_ne c] at h
      rcases wipeD_get h with z | ⟨z1, z2⟩
      · exact .inl z
      · refine .inr ⟨?_, z2⟩
        rw [List.mem_cons, not_or]
        exact ⟨fun e => c e.symm, z1⟩
theorem wipeD_len {ρ : DEn} : ∀ vs : List Nat, (wipeD ρ vs).length = ρ.length
  | [] => rfl
  | v :: vs => by unfold wipeD; rw [List.length_set, wipeD_len vs]
theorem blk_get {ρ : DEn} {vs : List Nat} {j : Nat} {s : Slo} (h : (blkD ρ vs)[j]? = some s) : s = .un ∨ ∃ d, s = .val d ∧ j ∉ vs ∧ ρ[j]? = some (.val d) := by
  unfold blkD at h
  rcases wipeD_get h with z | ⟨z1, z2⟩
  · exact .inl z
  · rw [List.getElem?_map] at z2
    cases e : ρ[j]? with
    | none => rw [e] at z2; cases z2
    | some t =>
      rw [e] at z2
      cases t with
      | un => cases z2; exact .inl rfl
      | val d => cases z2; exact .inr ⟨d, rfl, z1, rfl⟩
      | own _ _ => cases z2; exact .inl rfl
theorem wipe_out' {σ : L2.St} : ∀ {vs : List Nat} {j : Nat}, j ∉ vs → (wipe σ vs)[j]? = σ[j]?
  | [], _, _ => rfl
  | v :: vs, j, h => by
    unfold wipe
    rw [List.mem_cons, not_or] at h
    rw [List.getElem?_set_ne (fun e => h.1 e.symm), wipe_out' h.2]
theorem wipe_in {σ : L2.St} : ∀ {vs : List Nat} {j : Nat}, j ∈ vs → j < σ.length → (wipe σ vs)[j]? = some none
  | [], _, h, _ => by simp at h
  | v :: vs, j, h, hj => by
    unfold wipe
    by_cases c : v = j
    · subst c
      exact List.getElem?_set_self (by rw [wipe_length]; exact hj)
    · rw [List.getElem?_set_ne c]
      exact wipe_in ((List.mem_cons.mp h).elim (fun e => absurd e.symm c) id) hj
theorem blk_er {K : PySem.W.Frag} {α : Nat → Addr} {F H : Hp} {ρ : DEn} {σ : L2.St} (E : ER K α F H ρ σ) (vs : List Nat) : ER K α F H (blkD ρ vs) (wipe σ vs) ∧ ∀ b, ¬ OwnA (blkD ρ vs) (wipe σ vs) b := by
  have no : ∀ (j : Nat) (p : Option Nat) (ds : List PD), ¬ (blkD ρ vs)[j]? = some (Slo.own p ds) := fun j p ds h => by
    rcases blk_get h with z | ⟨d, z, _⟩ <;> cases z
  refine ⟨⟨E.sub, ?_, fun j d h => ?_, fun j p ds h => absurd h (no j p ds), fun j k p q ds es n h => absurd h (no j p ds)⟩, fun b ⟨j, p, ds, h, _⟩ => no j p ds h⟩
  · unfold blkD
    rw [wipeD_len, List.length_map, wipe_length]
    exact E.len
  · rcases blk_get h with z | ⟨d', z, h1, h2⟩
    · cases z
    · cases z
      obtain ⟨v, k1, k2⟩ := E.val j d h2
      exact ⟨v, by rw [wipe_out' h1]; exact k1, k2⟩
theorem wipe_same {σ σ2 : L2.St} {vs : List Nat} (hl : σ2.length = σ.length) (h : ∀ j, j ∉ vs → σ2[j]? = (wipe σ vs)[j]?) : wipe σ2 vs = wipe σ vs := by
  apply List.ext_getElem?
  intro j
  by_cases hj : j ∈ vs
  · by_cases hl2 : j < σ.length
    · rw [wipe_in hj (by rw [hl]; exact hl2), wipe_in hj hl2]
    · rw [List.getElem?_eq_none (by rw [wipe_length]; omega), List.getElem?_eq_none (by rw [wipe_length]; omega)]
  · rw [wipe_out' hj]; exact h j hj
/-- the made list so far, the block's environment -/
structure CompI (K : PySem.W.Frag) (α : Nat → Addr) (ρw : DEn) (σw : L2.St) (F1 H1 : Hp) (D : Addr) (acc : List PD) (H : Hp) : Prop where
  ex : ∃ F accV, ER K α F H ρw σw ∧ H D = some (.lst accV) ∧ F D = none ∧ RpAll K F accV acc ∧ Same H1 H ∧ Same F1 F ∧ ∀ b o, H1 b = some o → F1 b = none → F b = none
theorem dx_comp {elt : Expr} {ifs : List Expr} {scope : Scope} {own : List (Str × Nat)} {t it c e : Ir} {iter : Expr} (hc : X.calm = true) (hN : X.N.Nodup) (tm : tame iter = true) (hi : PI X tg iter (tIt X.K C true it)) (ok : BlkOk X.N X.env.scope scope own)
    (hg : ∀ (s : Shared) (H : Hp) (C' : Addr) (cl : List (Str × Addr)) (fp : List Addr), PG (X.blk s H scope (compEnvC scope cl C' X.env) fp) tg (tAsg X.K t))
    (ht : ∀ (s : Shared) (H : Hp) (C' : Addr) (cl : List (Str × Addr)) (fp : List Addr), PTs (X.blk s H scope (compEnvC scope cl C' X.env) fp) ifs (tT X.K C c))
    (he : ∀ (s : Shared) (H : Hp) (C' : Addr) (cl : List (Str × Addr)) (fp : List Addr), PE (X.blk s H scope (compEnvC scope cl C' X.env) fp) elt (tX X.K C e))
    (hv : ∀ j, j ∈ tgts t → j ∈ own.map (·.2)) : ∀ (σ : L2.St) (H : Hp) (Q : VK), tX X.K C (.comp t it c e (own.map (·.2))) σ H Q → tLc (tIt X.K C true it) (tAsg X.K t) (tT X.K C c) (tX X.K C e) (own.map (·.2)) σ H Q := by
  intro σ H Q q
  generalize hvs : own.map (·.2) = vs at q hv ⊢
  obtain ⟨α, F, ρ, r, ρ', E, ev, k⟩ := q
  simp only [evX] at ev
  split at ev
  · cases ev
  · rename_i ds ρ1 e1
    split at ev
    · rename_i fin f1
      cases ev
      refine ⟨α, F, ρ, ds, ρ', E, e1, fun J F1 H1 xs P src E1 st it D hD => ?_⟩
      have hF1 := free_of E1.sub hD
      obtain ⟨Ew, now⟩ := blk_er E1 vs
      have lx := rpAll_len it.rp
      have nown : ∀ (j : Nat) (p : Option Nat) (es : List PD), ¬ (blkD ρ' vs)[j]? = some (Slo.own p es) := fun j p es h => by
        rcases blk_get h with z | ⟨d, z, _⟩ <;> cases z
      refine ⟨fun i m H2 => m = xs.length - i ∧ i ≤ xs.length ∧ ∃ acc, compL t (evX C c) (evX C e) (blkD ρ' vs) (ds.drop i) acc = some fin ∧ CompI X.K α (blkD ρ' vs) (wipe σ vs) F1 H1 D acc H2, ⟨xs.length, by simp, Nat.zero_le _, [], by rw [List.drop_zero]; exact f1, F1, [], ⟨Ew.sub.trans (same_upd hD), Ew.len, Ew.val, fun j p es h => absurd h (nown j p es), Ew.inj⟩, upd_same, hF1, .nil, same_upd hD, Same.refl _, fun b o _ f => f⟩, ?_⟩
      · rintro i m H2 ⟨rfl, hi2, acc, ec, F2, accV, E2, hD2, hFD, ra, s1, s2, s3⟩
        have p2 : P H2 := it.keep H1 H2 (fun a o _ e => s1 a o e) it.now
        by_cases hlt : i < xs.length
        · refine .inr ⟨it.go i H2 p2 hlt, fun H3 => i + 1 ≤ xs.length ∧ ∃ acc, compL t (evX C c) (evX C e) (blkD ρ' vs) (ds.drop (i + 1)) acc = some fin ∧ CompI X.K α (blkD ρ' vs) (wipe σ vs) F1 H1 D acc H3, fun H3 ⟨h1, h2⟩ => ⟨xs.length - (i + 1), by omega, rfl, h1, h2⟩, fun x H3 y => ?_⟩
          obtain ⟨rfl, hx⟩ := it.yld i H2 x H3 p2 hlt y
          obtain ⟨d, hd, rd⟩ := rpAll_get' it.rp hx
          have hdi : i < ds.length := by omega
          have edr : ds.drop i = d :: ds.drop (i + 1) := by
            rw [List.drop_eq_getElem_cons hdi]
            rw [List.getElem?_eq_getElem hdi] at hd
            cases hd; rfl
          rw [edr] at ec
          simp only [compL] at ec
          split at ec
          · cases ec
          · rename_i ρ3 g1
            refine ⟨α, F2, blkD ρ' vs, d, ρ3, E2, rp_mono s2 _ _ rd, g1, fun σ3 E3 O3 len3 out3 => ⟨wipe_same (by rw [len3, wipe_length]) fun j hj => out3 j fun z => hj (hv j z), ?_⟩⟩
            have no3 : ∀ b, ¬ OwnA ρ3 σ3 b := fun b z => by
              obtain ⟨j, p, es, h, _⟩ := O3 b z
              rcases blk_get h with z | ⟨d, z, _⟩ <;> cases z
            -- the loop goes on behind a step that owns nothing
            have back : ∀ (ρ4 : DEn) (F4 H4 : Hp), Same F4 H4 → Stp (OwnA ρ3 σ3) (OwnA ρ4 σ3) F2 H3 F4 H4 → ER X.K α F4 H4 (blkD ρ' vs) (wipe σ vs) ∧ H4 D = some (.lst accV) ∧ F4 D = none ∧ RpAll X.K F4 accV acc ∧ Same H1 H4 ∧ Same F1 F4 ∧ ∀ b o, H1 b = some o → F1 b = none → F4 b = none := fun ρ4 F4 H4 sub st4 =>
              ⟨E2.grow st4 (fun b _ z => no3 b z) sub, st4.keep D _ hD2 (no3 D), st4.nof D _ hD2 (no3 D) hFD, rpAll_mono st4.ff _ _ ra, fun b o e => st4.keep b o (s1 b o e) (no3 b), s2.trans st4.ff, fun b o e f => st4.nof b o (s1 b o e) (no3 b) (s3 b o e f)⟩
            split at ec
            · rename_i ρ4 g2
              split at ec
              · rename_i r5 ρ5 g3
                split at ec
                · rename_i z g4
                  obtain ⟨hz, ec⟩ : acc.length < sizeLine ∧ compL t (evX C c) (evX C e) (blkD ρ' vs) (ds.drop (i + 1)) (acc ++ [z]) = some fin := by
                    by_cases hc : acc.length < sizeLine
                    · rw [if_pos hc] at ec; exact ⟨hc, ec⟩
                    · rw [if_neg hc] at ec; cases ec
                  refine ⟨α, F2, ρ3, true, ρ4, E3, g2, fun F4 H4 E4 st4 => iteT ⟨α, F4, ρ4, r5, ρ5, E4, g3, fun v F5 H5 A5 => ?_⟩⟩
                  obtain ⟨F6, A6⟩ := frz_aft A5 g4
                  obtain ⟨b1, b2, b3, b4, b5, b6, b7⟩ := back ρ5 F6 H5 A6.er.sub (st4.trans A6.val)
                  refine ⟨accV, b2, by rw [rpAll_len b4]; exact hz, hlt, acc ++ [z], ec, F6, accV ++ [v], ⟨fun b o e => ?_, b1.len, b1.val, fun j p es h => ?_, b1.inj⟩, upd_same, b3, rpAll_app b4 (.cons A6.rep .nil), fun b o e => ?_, b6, b7⟩
                  · rw [upd_ne]
                    · exact b1.sub b o e
                    · rintro rfl; rw [b3] at e; cases e
                  · rcases blk_get h with z | ⟨d, z, _⟩ <;> cases z
                  · rw [upd_ne]
                    · exact b5 b o e
                    · rintro rfl; rw [hD] at e; cases e
                · cases ec
              · cases ec
            · rename_i ρ4 g2
              refine ⟨α, F2, ρ3, false, ρ4, E3, g2, fun F4 H4 E4 st4 => iteF ?_⟩
              obtain ⟨b1, b2, b3, b4, b5, b6, b7⟩ := back ρ4 F4 H4 E4.sub st4
              exact ⟨hlt, acc, ec, F4, accV, b1, b2, b3, b4, b5, b6, b7⟩
            · cases ec
        · have ei : i = xs.length := by omega
          subst ei
          refine .inl ⟨it.stop _ H2 p2 (Nat.le_refl _), ?_⟩
          rw [List.drop_eq_nil_of_le (by omega)] at ec
          simp only [compL] at ec
          cases ec
          refine k (.ref D) F2 H2 (.after st (.of_made E1 ⟨E2.sub, ⟨s2, fun b o e _ => s1 b o e, fun b o e _ f => s3 b o e f, fun b z => ?_, fun b o e => ⟨o, s1 b o e⟩⟩, ⟨D, accV, rfl, hD2, hFD, ra⟩⟩))
          obtain ⟨_, _, _, z⟩ := z
          cases z
          exact .inr hD
    · cases ev
end
end Dv

set_option Elab.async false
set_option linter.all false
set_option maxRecDepth 100000
set_option maxHeartbeats 4000000
/-! statements -/
namespace Dv
open PySem PySem.Spec PyProof.Rows L2
def OutK (K : PySem.W.Frag) (α : Nat → Addr) (O : Addr → Prop) (F H : Hp) (E : Ends) : Out → Prop
  | .nx ρ' => ∀ (σ' : L2.St) (F' H' : Hp), ER K α F' H' ρ' σ' → Stp O (OwnA ρ' σ') F H F' H' → E.nx σ' H'
  | .bk ρ' => ∀ (σ' : L2.St) (F' H' : Hp), ER K α F' H' ρ' σ' → Stp O (OwnA ρ' σ') F H F' H' → E.bk σ' H'
  | .ct ρ' => ∀ (σ' : L2.St) (F' H' : Hp), ER K α F' H' ρ' σ' → Stp O (OwnA ρ' σ') F H F' H' → E.ct σ' H'
  | .rt r ρ' => ∀ (v : V) (σ' : L2.St) (F' H' : Hp), Aft K α O F H σ' ρ' r v F' H' → E.rt v H'
def tSt (K : PySem.W.Frag) (C : Cfg) (ir : Ir) : TS := fun E σ H => ∃ α F ρ out, ER K α F H ρ σ ∧ evS C ir ρ = some out ∧ OutK K α (OwnA ρ σ) F H E out
theorem OutK.trans {K : PySem.W.Frag} {α : Nat → Addr} {O O1 : Addr → Prop} {F H F1 H1 : Hp} {E : Ends} {out : Out} (s : Stp O O1 F H F1 H1) (k : OutK K α O F H E out) : OutK K α O1 F1 H1 E out := by
  cases out with
  | nx ρ' => exact fun σ' F' H' e st => k σ' F' H' e (s.trans st)
  | bk ρ' => exact fun σ' F' H' e st => k σ' F' H' e (s.trans st)
  | ct ρ' => exact fun σ' F' H' e st => k σ' F' H' e (s.trans st)
  | rt r ρ' => exact fun v σ' F' H' A => k v σ' F' H' ⟨A.er, A.rep, A.dist, s.trans A.st⟩
section
variable {X : Cx} {C : Cfg} {pos : Pos} {a b c e : Expr} {ia ib ic ie ir : Ir} {st : Stmt} {sts : List Stmt}
theorem ps_mono {t t' : TS} (h : PS X st t) (w : ∀ E σ H, t' E σ H → t E σ H) : PS X st t' := ⟨fun pins s σ H E I q => h.run pins s σ H E I (w E σ H q)⟩
theorem pss_mono {t t' : TS} (h : PSs X sts t) (w : ∀ E σ H, t' E σ H → t E σ H) : PSs X sts t' := ⟨fun pins s σ H E I q => h.run pins s σ H E I (w E σ H q)⟩
theorem ds_nil : PSs X [] (tSt X.K C .nil) := pss_mono pss_nil fun E σ H q => by
  obtain ⟨α, F, ρ, out, er, ev, k⟩ := q
  simp only [evS] at ev
  cases ev
  exact k σ F H er .refl
theorem ds_cons (h1 : PS X st (tSt X.K C ia)) (h2 : PSs X sts (tSt X.K C ib)) : PSs X (st :: sts) (tSt X.K C (.cons ia ib)) := pss_mono (pss_cons h1 h2) fun E σ H q => by
  obtain ⟨α, F, ρ, out, er, ev, k⟩ := q
  simp only [evS] at ev
  split at ev
  · rename_i ρ1 e1
    exact ⟨α, F, ρ, .nx ρ1, er, e1, fun σ' F' H' e' s => ⟨α, F', ρ1, out, e', ev, k.trans s⟩⟩
  · rename_i n
    cases out with
    | nx ρ1 => exact absurd ev (n ρ1)
    | bk ρ1 => exact ⟨α, F, ρ, _, er, ev, k⟩
    | ct ρ1 => exact ⟨α, F, ρ, _, er, ev, k⟩
    | rt r ρ1 => exact ⟨α, F, ρ, _, er, ev, k⟩
/-- a name's slot is given a fresh list -/
theorem ER.seto {K : PySem.W.Frag} {α : Nat → Addr} {F H : Hp} {ρ : DEn} {σ : L2.St} {i : Nat} {p : Option Nat} {ds : List PD} {v : V} (E : ER K α F H ρ σ) (hi : i < ρ.length) (r : RepS K F H v (.own p ds)) (dist : ∀ b, OwnV (.own p ds) v b → ¬ OwnA ρ σ b) :
    ER K α F H (ρ.set i (.own none ds)) (σ.set i (some v)) ∧ ∀ b, OwnA (ρ.set i (.own none ds)) (σ.set i (some v)) b → OwnA ρ σ b ∨ OwnV (.own p ds) v b := by
  obtain ⟨a, xs, rfl, h1, h2, h3⟩ := r
  have na := dist a ⟨p, ds, rfl, rfl⟩
  have hi' : i < σ.length := by rw [← E.len]; exact hi
  have hin : ∀ (j : Nat) (q : Option Nat) (es : List PD), (ρ.set i (.own none ds))[j]? = some (Slo.own q es) → (j = i ∧ q = none ∧ es = ds) ∨ (j ≠ i ∧ ρ[j]? = some (Slo.own q es)) := fun j q es e => by
    by_cases c : j = i
    · subst c; rw [List.getElem?_set_self hi] at e; cases e; exact .inl ⟨rfl, rfl, rfl⟩
    · rw [List.getElem?_set_ne (Ne.symm c)] at e; exact .inr ⟨c, e⟩
  refine ⟨⟨E.sub, by rw [List.length_set, List.length_set]; exact E.len, fun j d e => ?_, fun j q es e => ?_, fun j k q q' es es' n e1 e2 => ?_⟩, fun b ⟨j, q, es, e1, e2⟩ => ?_⟩
  · by_cases c : j = i
    · subst c; rw [List.getElem?_set_self hi] at e; cases e
    · rw [List.getElem?_set_ne (Ne.symm c)] at e ⊢
      exact E.val j d e
  · rcases hin j q es e with ⟨rfl, rfl, rfl⟩ | ⟨c, e⟩
    · exact ⟨a, xs, List.getElem?_set_self hi', h1, h2, h3, fun _ z => nomatch z⟩
    · rw [List.getElem?_set_ne (Ne.symm c)]
      exact E.own j q es e
  · have key : ∀ (j : Nat) (q : Option Nat) (es : List PD), j ≠ i → ρ[j]? = some (Slo.own q es) → σ[j]? ≠ some (some (V.ref a)) := fun j q es _ e z => na ⟨j, q, es, e, z⟩
    rcases hin j q es e1 with ⟨rfl, rfl, rfl⟩ | ⟨c1, f1⟩
    · rcases hin k q' es' e2 with ⟨rfl, _, _⟩ | ⟨c2, f2⟩
      · exact absurd rfl n
      · rw [List.getElem?_set_self hi', List.getElem?_set_ne (Ne.symm c2)]
        exact fun z => key k q' es' c2 f2 z.symm
    · rcases hin k q' es' e2 with ⟨rfl, _, _⟩ | ⟨c2, f2⟩
      · rw [List.getElem?_set_self hi', List.getElem?_set_ne (Ne.symm c1)]
        exact key j q es c1 f1
      · rw [List.getElem?_set_ne (Ne.symm c1), List.getElem?_set_ne (Ne.symm c2)]
        exact E.inj j k q q' es es' n f1 f2
  · rcases hin j q es e1 with ⟨rfl, _, _⟩ | ⟨c, f⟩
    · rw [List.getElem?_set_self hi'] at e2
      cases e2
      exact .inr ⟨p, ds, rfl, rfl⟩
    · rw [List.getElem?_set_ne (Ne.symm c)] at e2
      exact .inl ⟨j, q, es, f, e2⟩
/-- the slot's value, whatever the text stored it by -/
theorem set_weak {i : Nat} {keep : Bool} {E : Ends} {σ : L2.St} {H : Hp} (q : tSt X.K C (.set i keep ie) E σ H) : L2.tAsg (tX X.K C ie) (gName i) E σ H := by
  obtain ⟨α, F, ρ, out, er, ev, k⟩ := q
  simp only [evS] at ev
  split at ev
  · cases ev
  · rename_i r ρ1 e1
    split at ev
    · rename_i hi
      split at ev
      · split at ev
        · rename_i p ds
          cases ev
          refine ⟨α, F, ρ, _, ρ1, er, e1, fun v F1 H1 A => ?_⟩
          obtain ⟨e2, o2⟩ := A.er.seto hi A.rep A.dist
          exact k _ F1 H1 e2 (A.st.mono (fun _ z => z) fun b z => o2 b z)
        · cases ev
      · split at ev
        · rename_i d f1
          cases ev
          refine ⟨α, F, ρ, _, ρ1, er, e1, fun v F1 H1 A => ?_⟩
          obtain ⟨F2, B⟩ := frz_aft A f1
          obtain ⟨e2, o2⟩ := B.er.setv (i := i) B.rep
          exact k _ F2 H1 e2 (B.val.mono (fun _ z => z) o2)
        · cases ev
    · cases ev
theorem ds_set {i : Nat} {keep : Bool} {x : Str} {p : Pos} (hN : X.N.Nodup) (hi : X.N[i]? = some x) (hx : Loc X.env.scope x) (he : PE X e (tX X.K C ie)) (hs : swapsWith e (some (.Name x p)) pos.line X.env = pure false) (hf : X.fn x = true ∨ X.env.scope.names.lookup x = some .local) :
    PS X (.Assign [.Name x p] e pos) (tSt X.K C (.set i keep ie)) := ps_mono (ps_set hN hi hx he hs hf) fun E σ H q => set_weak q
theorem ds_aug {i : Nat} {pl : Bool} {x : Str} {p : Pos} {op : Operator} (hN : X.N.Nodup) (hi : X.N[i]? = some x) (hx : Loc X.env.scope x) (he : PE X e (tX X.K C ie)) (ho : PIp X op (ipI fun i j => cond pl (i + j) (i - j))) (hf : X.fn x = true ∨ X.env.scope.names.lookup x = some .local) :
    PS X (.AugAssign (.Name x p) op e pos) (tSt X.K C (.aug i pl ie)) := ps_mono (ps_aug hN hi hx he ho hf) fun E σ H q => by
  obtain ⟨α, F, ρ, out, er, ev, k⟩ := q
  simp only [evS] at ev
  split at ev
  · rename_i a e0
    split at ev
    · rename_i b ρ1 e1
      split at ev
      · cases ev
        obtain ⟨v, h1, h2⟩ := er.val i _ e0
        cases h2
        refine ⟨.int a, h1, α, F, ρ, _, ρ1, er, e1, fun v F1 H1 A => ⟨a, b, rfl, int_rep A.rep, ?_⟩⟩
        have r : RepS X.K F1 H1 (.int (cond pl (a + b) (a - b))) (.val (.int (cond pl (a + b) (a - b)))) := .int _
        obtain ⟨e2, o2⟩ := A.er.setv (i := i) r
        exact k _ F1 H1 e2 (A.val.mono (fun _ z => z) o2)
      · cases ev
    · cases ev
  · cases ev
theorem ds_unp {t : Ir} (he : PE X e (tX X.K C ie)) (hg : PG X a (tAsg X.K t)) (hs : swapsWithSole [a] e pos.line X.env = pure false) (hw : swappedStores [a] e X.env = pure none)
    (h1 : (assignEach [a] X.env).map (·.2) = [assign a X.env]) : PS X (.Assign [a] e pos) (tSt X.K C (.unp t ie)) := ps_mono (ps_asg he hg hs hw h1) fun E σ H q => by
  obtain ⟨α, F, ρ, out, er, ev, k⟩ := q
  simp only [evS] at ev
  split at ev
  · cases ev
  · rename_i r ρ1 e1
    split at ev
    · cases ev
    · rename_i d f1
      split at ev
      · rename_i ρ2 f2
        cases ev
        refine ⟨α, F, ρ, r, ρ1, er, e1, fun v F1 H1 A => ?_⟩
        obtain ⟨F2, B⟩ := frz_aft A f1
        exact ⟨α, F2, ρ1, d, ρ2, B.er, B.rep, f2, fun σ' e2 o2 _ _ => k σ' F2 H1 e2 (B.val.mono (fun _ z => z) o2)⟩
      · cases ev
theorem ds_sti {i : Nat} {x : Str} {np p : Pos} (hv : PE X (.Name x np) (tVar i)) (hb : DX X C b ib) (he : PE X e (tX X.K C ie)) (hs : swapsWithSole [.Subscript (.Name x np) b p] e pos.line X.env = pure false) (hw : swappedStores [.Subscript (.Name x np) b p] e X.env = pure none)
    (ha : ∀ v, assign (.Subscript (.Name x np) b p) X.env v = (do
      let ov ← holding [v] (eval (.Name x np) X.env)
      let iv ← holding [v, ov] (eval b X.env)
      standAt p
      holding [v, ov, iv] (setItem ov iv v)
      release [v, ov, iv] [])) : PS X (.Assign [.Subscript (.Name x np) b p] e pos) (tSt X.K C (.sti i ib ie)) := ps_mono (ps_asg he (pg_sub hv hb.x set_list ha) hs hw rfl) fun E σ H q => by
  obtain ⟨α, F, ρ, out, er, ev, k⟩ := q
  simp only [evS] at ev
  split at ev
  · cases ev
  · rename_i r ρ1 e1
    split at ev
    · cases ev
    · rename_i d f1
      split at ev
      · rename_i p0 ds0 f0
        split at ev
        · rename_i kk ρ2 f2
          split at ev
          · rename_i pp ds f3
            split at ev
            · rename_i j f4
              cases ev
              refine ⟨α, F, ρ, r, ρ1, er, e1, fun v F1 H1 A => ?_⟩
              obtain ⟨F2, B⟩ := frz_aft A f1
              obtain ⟨w, xs0, hw, _⟩ := B.er.own i p0 ds0 f0
              refine ⟨.ref w, hw, α, F2, ρ1, _, ρ2, B.er, f2, fun u F3 H3 G => ?_⟩
              obtain ⟨a0, ys, g1, g2, g3, g4, _⟩ := G.er.own i pp ds f3
              rw [hw] at g1
              cases g1
              obtain ⟨e4, s4⟩ := G.er.write f3 hw (rpAll_set (rp_mono G.st.ff _ _ B.rep) j g4)
              exact ⟨w, ys, kk, j, rfl, int_rep G.rep, g2, by rw [rpAll_len g4]; exact f4, k σ F3 _ e4 (B.val.trans (G.val.trans s4))⟩
            · cases ev
          · cases ev
        · cases ev
      · cases ev
theorem ds_ex (he : PE X e (tX X.K C ie)) (hs : swapsWith e none pos.line X.env = pure false) : PS X (.Expr e pos) (tSt X.K C (.ex ie)) := ps_mono (ps_expr he hs) fun E σ H q => by
  obtain ⟨α, F, ρ, out, er, ev, k⟩ := q
  simp only [evS] at ev
  split at ev
  · rename_i r ρ1 e1
    cases ev
    exact ⟨α, F, ρ, r, ρ1, er, e1, fun v F1 H1 A => k σ F1 H1 A.er (A.st.mono (fun _ z => z) fun _ z => .inl z)⟩
  · cases ev
theorem ds_pas : PS X (.Pass pos) (tSt X.K C .pas) := ps_mono ps_pass fun E σ H q => by
  obtain ⟨α, F, ρ, out, er, ev, k⟩ := q
  simp only [evS] at ev
  cases ev
  exact k σ F H er .refl
theorem ds_brk : PS X (.Break pos) (tSt X.K C .brk) := ps_mono ps_break fun E σ H q => by
  obtain ⟨α, F, ρ, out, er, ev, k⟩ := q
  simp only [evS] at ev
  cases ev
  exact k σ F H er .refl
theorem ds_cnt : PS X (.Continue pos) (tSt X.K C .cnt) := ps_mono ps_continue fun E σ H q => by
  obtain ⟨α, F, ρ, out, er, ev, k⟩ := q
  simp only [evS] at ev
  cases ev
  exact k σ F H er .refl
theorem ds_ifs {as bs : List Stmt} (hc : PT X c (tT X.K C ic)) (ha : PSs X as (tSt X.K C ia)) (hb : PSs X bs (tSt X.K C ib)) : PS X (.If c as bs pos) (tSt X.K C (.ifs ic ia ib)) := ps_mono (ps_if hc ha hb) fun E σ H q => by
  obtain ⟨α, F, ρ, out, er, ev, k⟩ := q
  simp only [evS] at ev
  split at ev
  · rename_i ρ1 e1
    exact ⟨α, F, ρ, true, ρ1, er, e1, fun F1 H1 e2 s => iteT ⟨α, F1, ρ1, out, e2, ev, k.trans s⟩⟩
  · rename_i ρ1 e1
    exact ⟨α, F, ρ, false, ρ1, er, e1, fun F1 H1 e2 s => iteF ⟨α, F1, ρ1, out, e2, ev, k.trans s⟩⟩
  · cases ev
theorem ds_whl {bs : List Stmt} (hp : PassesOwn (model X.prog X.w) X.A X.env X.xe) (hc : PT X c (tT X.K C ic)) (hb : PSs X bs (tSt X.K C ib)) : PS X (.While c bs [] pos) (tSt X.K C (.whl ic ib)) := ps_mono (ps_while hp hc hb) fun E σ H q => by
  obtain ⟨α, F, ρ, out, er, ev, k⟩ := q
  simp only [evS] at ev
  refine ⟨fun m σ' H' => ∃ F' ρ', ER X.K α F' H' ρ' σ' ∧ whileL (evX C ic) (evS C ib) m ρ' = some out ∧ OutK X.K α (OwnA ρ' σ') F' H' E out, ⟨wfuel, F, ρ, er, ev, k⟩, ?_⟩
  rintro m σ1 H1 ⟨F1, ρ1, e1, ev1, k1⟩
  cases m with
  | zero => simp only [whileL] at ev1; cases ev1
  | succ m =>
    simp only [whileL] at ev1
    split at ev1
    · rename_i ρ2 f1
      refine ⟨α, F1, ρ1, true, ρ2, e1, f1, fun F2 H2 e2 s2 => iteT ⟨fun σ' H' => ∃ F' ρ', ER X.K α F' H' ρ' σ' ∧ whileL (evX C ic) (evS C ib) m ρ' = some out ∧ OutK X.K α (OwnA ρ' σ') F' H' E out, fun σ' H' z => ⟨m, Nat.lt_succ_self m, z⟩, ?_⟩⟩
      have k2 := k1.trans s2
      split at ev1
      · rename_i ρ3 f2
        exact ⟨α, F2, ρ2, _, e2, f2, fun σ3 F3 H3 e3 s3 => ⟨F3, ρ3, e3, ev1, k2.trans s3⟩⟩
      · rename_i ρ3 f2
        exact ⟨α, F2, ρ2, _, e2, f2, fun σ3 F3 H3 e3 s3 => ⟨F3, ρ3, e3, ev1, k2.trans s3⟩⟩
      · rename_i ρ3 f2
        cases ev1
        exact ⟨α, F2, ρ2, _, e2, f2, k2⟩
      · rename_i r ρ3 f2
        cases ev1
        exact ⟨α, F2, ρ2, _, e2, f2, k2⟩
      · cases ev1
    · rename_i ρ2 f1
      cases ev1
      exact ⟨α, F1, ρ1, false, ρ2, e1, f1, fun F2 H2 e2 s2 => iteF (k1 σ1 F2 H2 e2 s2)⟩
    · cases ev1
theorem ds_fors {bs : List Stmt} {t it : Ir} {tg iter : Expr} (hp : PassesOwn (model X.prog X.w) X.A X.env X.xe) (hc : X.calm = true) (tm : tame iter = true) (hi : PI X tg iter (tIt X.K C false it)) (hg : PG X tg (tAsg X.K t)) (hb : PSs X bs (tSt X.K C ib)) :
    PS X (.For tg iter bs [] pos) (tSt X.K C (.fors t it ib)) := ps_mono (ps_for hp hc hi hg hb fun x => tame_fold tm X.env x) fun E σ H q => by
  obtain ⟨α, F, ρ, out, er, ev, k⟩ := q
  simp only [evS] at ev
  split at ev
  · cases ev
  · rename_i ds ρ1 f1
    refine ⟨α, F, ρ, ds, ρ1, er, f1, fun J F1 H1 xs P src e1 s1 it => ?_⟩
    have lx := rpAll_len it.rp
    refine ⟨fun i m σ' H' => m = xs.length - i ∧ i ≤ xs.length ∧ ∃ F' ρ', ER X.K α F' H' ρ' σ' ∧ Same F1 F' ∧ forL t (evS C ib) (ds.drop i) ρ' = some out ∧ OutK X.K α (OwnA ρ' σ') F' H' E out, ⟨xs.length, by simp, Nat.zero_le _, F1, ρ1, e1, Same.refl _, by rw [List.drop_zero]; exact ev, k.trans s1⟩, ?_⟩
    rintro i m σ2 H2 ⟨rfl, hi2, F2, ρ2, e2, sm, ev2, k2⟩
    have p2 : P H2 := it.keep H1 H2 (fun a o z e => e2.sub a o (sm a o (it.frz rfl a o z e))) it.now
    by_cases hlt : i < xs.length
    · refine .inr ⟨it.go i H2 p2 hlt, fun σ' H' => ∃ F' ρ', ER X.K α F' H' ρ' σ' ∧ Same F1 F' ∧ forL t (evS C ib) (ds.drop (i + 1)) ρ' = some out ∧ OutK X.K α (OwnA ρ' σ') F' H' E out, fun σ' H' z => ⟨xs.length - (i + 1), by omega, rfl, hlt, z⟩, fun x H3 y => ?_⟩
      obtain ⟨rfl, hx⟩ := it.yld i H2 x H3 p2 hlt y
      obtain ⟨d, hd, rd⟩ := rpAll_get' it.rp hx
      have hdi : i < ds.length := by omega
      have edr : ds.drop i = d :: ds.drop (i + 1) := by
        rw [List.drop_eq_getElem_cons hdi]
        rw [List.getElem?_eq_getElem hdi] at hd
        cases hd; rfl
      rw [edr] at ev2
      simp only [forL] at ev2
      split at ev2
      · cases ev2
      · rename_i ρ3 g1
        refine ⟨α, F2, ρ2, d, ρ3, e2, rp_mono sm _ _ rd, g1, fun σ3 e3 o3 _ _ => ?_⟩
        have k3 : OutK X.K α (OwnA ρ3 σ3) F2 H3 E out := k2.trans (Stp.refl.mono (fun _ z => z) o3)
        split at ev2
        · rename_i ρ4 g2
          exact ⟨α, F2, ρ3, _, e3, g2, fun σ4 F4 H4 e4 s4 => ⟨F4, ρ4, e4, sm.trans s4.ff, ev2, k3.trans s4⟩⟩
        · rename_i ρ4 g2
          exact ⟨α, F2, ρ3, _, e3, g2, fun σ4 F4 H4 e4 s4 => ⟨F4, ρ4, e4, sm.trans s4.ff, ev2, k3.trans s4⟩⟩
        · rename_i ρ4 g2
          cases ev2
          exact ⟨α, F2, ρ3, _, e3, g2, k3⟩
        · rename_i r ρ4 g2
          cases ev2
          exact ⟨α, F2, ρ3, _, e3, g2, k3⟩
        · cases ev2
    · have ei : i = xs.length := by omega
      subst ei
      rw [List.drop_eq_nil_of_le (by omega)] at ev2
      simp only [forL] at ev2
      cases ev2
      exact .inl ⟨it.stop _ H2 p2 (Nat.le_refl _), k2 σ2 F2 H2 e2 .refl⟩
end
end Dv

set_option Elab.async false
set_option linter.all false
set_option maxRecDepth 100000
set_option maxHeartbeats 4000000
/-! isinstance, return, a def's body -/
namespace Dv
open PySem PySem.Spec PyProof.Rows L2
def tyN : Ty → String
  | .int => "int" | .str => "str" | .bool => "bool" | .tuple => "tuple" | .list => "list"
def tyNS : Ty → Str
  | .int => "int" | .str => "str" | .bool => "bool" | .tuple => "tuple" | .list => "list"
def tyOf : PD → Option String
  | .none => some "NoneType" | .bool _ => some "bool" | .int _ => some "int" | .str _ => some "str" | .list _ => some "list" | .tuple _ => some "tuple"
  | .dict _ => none
theorem boot_ty (t : Ty) : bootBuiltins (tyNS t) = some (.type (tyN t)) := by cases t <;> decide +kernel
theorem kit_ok {d : PD} {n : String} (t : Ty) (h : tyOf d = some n) : kitB n (tyN t) = some (tyOk t d) := by
  cases d <;> cases h <;> cases t <;> simp only [tyOk, tyN] <;> decide +kernel
theorem made_junk {K : PySem.W.Frag} {F H : Hp} {z : V} {d : PD} {p : Addr} {o : HO} (s : Same F H) (hp : H p = none) (q : Rp K F z d) : Made K F H (.val d) z F (upd H p o) :=
  ⟨s.trans (same_upd hp), ⟨Same.refl _, fun b o e _ => same_upd hp b o e, fun _ _ _ _ f => f, fun b z => absurd z ownV_val, fun b o e => ⟨o, same_upd hp b o e⟩⟩, q⟩
section
variable {X : Cx} {C : Cfg} {a : Expr} {ia ir : Ir} {pos : Pos}
theorem ty_view {K : PySem.W.Frag} {F H : Hp} {v : V} {d : PD} {n : String} (sm : Same F H) (w : Vp K F H v d) (h : tyOf d = some n) : TyX K H v (.type n) := by
  cases d with
  | none => cases h; rw [w.non]; exact .base .non
  | bool b => cases h; rw [w.bl]; exact .base (.bl b)
  | int i => cases h; rw [w.int]; exact .base (.int i)
  | str x => cases h; rw [w.str]; exact .base (.str x)
  | list ds =>
    cases h
    obtain ⟨a, xs, rfl, (h1 | ⟨o, h1⟩) | ⟨_, _, h1, _⟩, _⟩ := w.list sm
    · exact .base (.lst h1)
    · exact .base (.frz h1)
    · exact .kList h1 rfl
  | tuple ds =>
    cases h
    obtain ⟨a, xs, rfl, (h1 | ⟨o, h1⟩) | ⟨o, _, _, h1, h2, _⟩, _⟩ := w.tuple sm
    · exact .base (.tup h1)
    · exact .fTuple h1
    · exact .kTuple h1 h2
  | dict _ => cases h
theorem vp_mono {K : PySem.W.Frag} {F H H' : Hp} {v : V} {d : PD} (s : Same H H') (w : Vp K F H v d) : Vp K F H' v d := w.imp id fun ⟨a, xs, ds, e1, e2, h, r⟩ => ⟨a, xs, ds, e1, e2, s _ _ h, r⟩
theorem isi_ty {ts : List Ty} {d : PD} {b : Bool} (h : isiD ts d = some b) : ∃ n, tyOf d = some n ∧ b = ts.any fun t => tyOk t d := by
  cases d <;> simp only [isiD] at h <;> cases h <;> exact ⟨_, rfl, rfl⟩
theorem isi_step {ts : List Ty} {σ : L2.St} {H : Hp} {Q : VK} {K : PySem.W.Frag} (q : tX K C (.isi ts ia) σ H Q) {P : V → Hp → Prop}
    (go : ∀ F H v d n, Same F H → Vp K F H v d → tyOf d = some n → (∀ F' H', Made K F H (.val (.bool (ts.any fun t => tyOk t d))) (.bl (ts.any fun t => tyOk t d)) F' H' → Q (.bl (ts.any fun t => tyOk t d)) H') → P v H) : tI K C true ia σ H P := by
  obtain ⟨α, F, ρ, r, ρ', E, ev, k⟩ := q
  simp only [evX] at ev
  split at ev
  · cases ev
  · rename_i x ρ1 e1
    split at ev
    · cases ev
    · rename_i d f1
      split at ev
      · rename_i b f2
        cases ev
        obtain ⟨n, h1, rfl⟩ := isi_ty f2
        exact ⟨α, F, ρ, x, ρ', E, e1, fun v F1 H1 A => go F1 H1 v d n A.er.sub (view_of A.er A.rep f1) h1 fun F' H' M => k _ F' H' (.after A.st (.of_made A.er M))⟩
      · cases ev
theorem pe_ty {t : Ty} {p : Pos} (hg : Gl X (tyNS t)) (hm : X.mg (tyNS t) = none) : PE X (.Name (tyNS t) p) (tC (.ty (tyN t))) :=
  pe_bltn hg hm (boot_ty t) rfl (by cases t <;> decide) (by cases t <;> decide)
theorem boot_isi : bootBuiltins "isinstance" = some (.builtin "isinstance") := by decide +kernel
theorem dx_isi1 {t : Ty} {np p : Pos} (hg0 : Gl X "isinstance") (hm0 : X.mg "isinstance" = none) (hg : Gl X (tyNS t)) (hm : X.mg (tyNS t) = none) (ha : DX X C a ia) : DX X C (.Call (.Name "isinstance" np) [a, .Name (tyNS t) p] [] pos) (.isi [t] ia) := by
  have s1 := tame_star ha.tm [.Name (tyNS t) p] X.env
  refine .mk' (pe_mono (pe_callB call_isi hg0 hm0 boot_isi (pa_cons (ha.o true) (pa_cons (pe_ty hg hm) pa_nil rfl) s1) (by decide) (by decide) s1 rfl) fun σ H Q q => ?_) rfl rfl rfl
  exact isi_step q fun F1 H1 v d n sm w h1 q1 => ⟨v, _, _, _, _, rfl, .ty _, ty_view sm w h1, kit_ty (kit_ok t h1), by
    have q2 := q1 F1 H1 (made_same sm (.bl _))
    rw [List.any_cons, List.any_nil, Bool.or_false] at q2
    exact q2⟩
theorem dx_isi2 {t t' : Ty} {np p p' tp : Pos} {x1 : Nat} (hg0 : Gl X "isinstance") (hm0 : X.mg "isinstance" = none) (hg : Gl X (tyNS t)) (hm : X.mg (tyNS t) = none) (hg' : Gl X (tyNS t')) (hm' : X.mg (tyNS t') = none) (ha : DX X C a ia) :
    DX X C (.Call (.Name "isinstance" np) [a, .Tuple [.Name (tyNS t) p, .Name (tyNS t') p'] x1 tp] [] pos) (.isi [t, t'] ia) := by
  have s1 := tame_star ha.tm [.Tuple [.Name (tyNS t) p, .Name (tyNS t') p'] x1 tp] X.env
  refine .mk' (pe_mono (pe_callB call_isiT hg0 hm0 boot_isi (pa_cons (ha.o true) (pa_cons (pe_tup (pa_cons (pe_ty hg hm) (pa_cons (pe_ty hg' hm') pa_nil rfl) rfl)) pa_nil rfl) s1) (by decide) (by decide) s1 rfl) fun σ H Q q => ?_) rfl rfl rfl
  refine isi_step q fun F1 H1 v d n sm w h1 q1 => ⟨by show 2 ≤ sizeLine; decide, fun tp hp => ?_⟩
  have k1 := kit_ok t h1
  have k2 := kit_ok t' h1
  have ka : PySem.W.kitAny X.K (.type n) [.type (tyN t), .type (tyN t')] = some ([t, t'].any fun t => tyOk t d) := by
    refine kitAny_cons (kit_ty k1) (fun hb => ?_) fun hb => ?_
    · refine kitAny_cons (kit_ty k2) (fun hb2 => ?_) fun hb2 => ?_
      · rw [kitAny_nil]; simp [hb, hb2]
      · simp [hb2]
    · simp [hb]
  refine ⟨v, tp, [.ty (tyN t), .ty (tyN t')], _, [.type (tyN t), .type (tyN t')], _, rfl, upd_same, .cons (.ty _) (.cons (.ty _) .nil), ?_, ka, q1 F1 _ (made_junk sm hp (.bl _))⟩
  exact ty_view (sm.trans (same_upd hp)) (vp_mono (same_upd hp) w) h1
/-! ### return -/
theorem ds_ret {e : Expr} {ie : Ir} (hn : ∀ i, ie ≠ .var i) (he : PE X e (tX X.K C ie)) : PS X (.Return (some e) pos) (tSt X.K C (.ret ie)) := ps_mono (ps_ret he) fun E σ H q => by
  obtain ⟨α, F, ρ, out, er, ev, k⟩ := q
  have ev' : (match evX C ie ρ with
      | some (r, ρ1) => some (Out.rt r ρ1)
      | none => none) = some out := by
    cases ie <;> first | exact absurd rfl (hn _) | (simp only [evS] at ev; exact ev)
  split at ev'
  · rename_i r ρ1 e1
    cases ev'
    exact ⟨α, F, ρ, r, ρ1, er, e1, fun v F1 H1 A => k v σ F1 H1 A⟩
  · cases ev'
theorem ds_retV {i : Nat} {x : Str} {np : Pos} (hv : PE X (.Name x np) (tVar i)) : PS X (.Return (some (.Name x np)) pos) (tSt X.K C (.ret (.var i))) := ps_mono (ps_ret hv) fun E σ H q => by
  obtain ⟨α, F, ρ, out, er, ev, k⟩ := q
  simp only [evS] at ev
  split at ev
  · rename_i ds e0
    cases ev
    obtain ⟨a, xs, h1, h2, h3, h4, _⟩ := er.own i _ ds e0
    have hi : i < ρ.length := (List.getElem?_eq_some_iff.mp e0).1
    have hin : ∀ (j : Nat) (s : Slo), (ρ.set i .un)[j]? = some s → s = .un ∨ (j ≠ i ∧ ρ[j]? = some s) := fun j s e => by
      by_cases c : j = i
      · subst c; rw [List.getElem?_set_self hi] at e; cases e; exact .inl rfl
      · rw [List.getElem?_set_ne (Ne.symm c)] at e; exact .inr ⟨c, e⟩
    have hin' : ∀ (j : Nat) (q : Option Nat) (es : List PD), (ρ.set i .un)[j]? = some (Slo.own q es) → j ≠ i ∧ ρ[j]? = some (Slo.own q es) := fun j q es e => (hin j _ e).elim (fun z => nomatch z) id
    refine ⟨.ref a, h1, k (.ref a) σ F H ⟨⟨er.sub, by rw [List.length_set]; exact er.len, fun j d e => ?_, fun j q es e => er.own j q es (hin' j q es e).2, fun j l q q' es es' n e1 e2 => er.inj j l q q' es es' n (hin' _ _ _ e1).2 (hin' _ _ _ e2).2⟩, ⟨a, xs, rfl, h2, h3, h4⟩, fun b z w => ?_, Same.refl _, fun b o e _ => e, fun b o _ _ f => f, fun b z => .inl ?_, fun b o e => ⟨o, e⟩⟩⟩
    · rcases hin j _ e with z | ⟨_, e⟩
      · cases z
      · exact er.val j d e
    · obtain ⟨_, _, _, z⟩ := z
      cases z
      obtain ⟨j, q, es, e1, e2⟩ := w
      obtain ⟨n, e1⟩ := hin' j q es e1
      exact er.inj j i q none es ds n e1 e0 (by rw [e2, h1])
    · rcases z with ⟨j, q, es, e1, e2⟩ | ⟨_, _, _, z⟩
      · exact ⟨j, q, es, (hin' j q es e1).2, e2⟩
      · cases z
        exact ⟨i, none, ds, e0, h1⟩
  · rename_i d e0
    cases ev
    obtain ⟨v, h1, h2⟩ := er.val i d e0
    exact ⟨v, h1, k v σ F H (.of_made er (made_same er.sub h2))⟩
  · cases ev
theorem ds_retN : PS X (.Return none pos) (tSt X.K C (.ret .non)) := ps_mono ps_retN fun E σ H q => by
  obtain ⟨α, F, ρ, out, er, ev, k⟩ := q
  simp only [evS, evX] at ev
  cases ev
  exact k .non σ F H (.of_made er (made_same er.sub .non))
end

/-! ### a def, by its body -/
theorem outs_get {ρ : DEn} : ∀ {as : DEn} {n : Nat} {os : DEn}, outsA ρ n as = some os → os.length = as.length ∧ ∀ (j : Nat) (s : Slo), os[j]? = some s → s = .un ∨ ∃ p ds ds', s = .own none ds ∧ as[j]? = some (Slo.own p ds') ∧ ρ[n + j]? = some (Slo.own (some (n + j)) ds)
  | [], n, os, h => by
    simp only [outsA] at h
    cases h
    exact ⟨rfl, fun j s e => by simp at e⟩
  | a :: as, n, os, h => by
    have rcv : ∀ {os'}, outsA ρ (n + 1) as = some os' → _ := fun {os'} h' => outs_get (n := n + 1) (os := os') h'
    cases a with
    | own p ds =>
      simp only [outsA] at h
      split at h
      · rename_i j ds2 os2 e1 e2
        obtain ⟨hc, e⟩ := some_of_ite h
        cases e
        obtain ⟨l, g⟩ := rcv e2
        refine ⟨by rw [List.length_cons, List.length_cons, l], fun j' s e => ?_⟩
        cases j' with
        | zero =>
          simp at e
          subst e
          refine .inr ⟨p, ds2, ds, rfl, rfl, ?_⟩
          rw [Nat.add_zero, e1, hc]
        | succ j' =>
          rcases g j' s (by simpa using e) with z | ⟨p', x, y, z1, z2, z3⟩
          · exact .inl z
          · refine .inr ⟨p', x, y, z1, by simpa using z2, ?_⟩
            rw [show n + (j' + 1) = n + 1 + j' by omega]; exact z3
      · cases h
    | un =>
      simp only [outsA] at h
      split at h
      · rename_i os2 e2
        cases h
        obtain ⟨l, g⟩ := rcv e2
        refine ⟨by rw [List.length_cons, List.length_cons, l], fun j' s e => ?_⟩
        cases j' with
        | zero => simp at e; exact .inl e.symm
        | succ j' =>
          rcases g j' s (by simpa using e) with z | ⟨p', x, y, z1, z2, z3⟩
          · exact .inl z
          · refine .inr ⟨p', x, y, z1, by simpa using z2, ?_⟩
            rw [show n + (j' + 1) = n + 1 + j' by omega]; exact z3
      · cases h
    | val d =>
      simp only [outsA] at h
      split at h
      · rename_i os2 e2
        cases h
        obtain ⟨l, g⟩ := rcv e2
        refine ⟨by rw [List.length_cons, List.length_cons, l], fun j' s e => ?_⟩
        cases j' with
        | zero => simp at e; exact .inl e.symm
        | succ j' =>
          rcases g j' s (by simpa using e) with z | ⟨p', x, y, z1, z2, z3⟩
          · exact .inl z
          · refine .inr ⟨p', x, y, z1, by simpa using z2, ?_⟩
            rw [show n + (j' + 1) = n + 1 + j' by omega]; exact z3
      · cases h
theorem tag_get {as : DEn} {j : Nat} {s : Slo} (h : (tagA as)[j]? = some s) : (∃ d, s = .val d ∧ as[j]? = some (.val d)) ∨ (s = .un) ∨ ∃ p ds, s = .own (some j) ds ∧ as[j]? = some (Slo.own p ds) := by
  unfold tagA at h
  rw [List.getElem?_mapIdx] at h
  cases e : as[j]? with
  | none => rw [e] at h; cases h
  | some t =>
    rw [e] at h
    cases t with
    | un => cases h; exact .inr (.inl rfl)
    | val d => cases h; exact .inl ⟨d, rfl, rfl⟩
    | own p ds => cases h; exact .inr (.inr ⟨p, ds, rfl, rfl⟩)
/-- the addresses of the lists that are lent -/
def addrOf (vs : List V) (j : Nat) : Addr := match vs[j]? with
  | some (.ref a) => a
  | _ => 0
theorem start_get {N : List Str} {vs : List V} {j : Nat} {v : V} (h : vs[j]? = some v) : (L2.start N vs)[j]? = some (some v) := by
  unfold L2.start
  have hj : j < vs.length := (List.getElem?_eq_some_iff.mp h).1
  rw [List.getElem?_append_left (by simpa using hj), List.getElem?_map, h]; rfl
theorem body_er {K : PySem.W.Frag} {α : Nat → Addr} {F H : Hp} {N : List Str} {as : DEn} {vs : List V} (E : ER K α F H as (vs.map some)) (hl : vs.length ≤ N.length) :
    ER K (addrOf vs) F H (tagA as ++ List.replicate (N.length - vs.length) .un) (L2.start N vs) ∧ ∀ b, OwnA (tagA as ++ List.replicate (N.length - vs.length) .un) (L2.start N vs) b → OwnA as (vs.map some) b := by
  have la : (tagA as).length = as.length := by unfold tagA; rw [List.length_mapIdx]
  have lv : as.length = vs.length := by rw [E.len, List.length_map]
  have get : ∀ (j : Nat) (s : Slo), (tagA as ++ List.replicate (N.length - vs.length) .un)[j]? = some s → s = .un ∨ (∃ d, s = .val d ∧ as[j]? = some (.val d)) ∨ ∃ p ds, s = .own (some j) ds ∧ as[j]? = some (Slo.own p ds) := fun j s h => by
    by_cases c : j < (tagA as).length
    · rw [List.getElem?_append_left c] at h
      rcases tag_get h with z | z | z
      · exact .inr (.inl z)
      · exact .inl z
      · exact .inr (.inr z)
    · rw [List.getElem?_append_right (by omega), List.getElem?_replicate] at h
      split at h
      · cases h; exact .inl rfl
      · cases h
  refine ⟨⟨E.sub, ?_, fun j d h => ?_, fun j p ds h => ?_, fun j k p q ds es n h1 h2 => ?_⟩, fun b ⟨j, p, ds, h1, h2⟩ => ?_⟩
  · unfold L2.start
    rw [List.length_append, List.length_replicate, List.length_append, List.length_replicate, List.length_map, la, lv]
  · rcases get j _ h with z | ⟨d', z, h'⟩ | ⟨_, _, z, _⟩
    · cases z
    · cases z
      obtain ⟨v, k1, k2⟩ := E.val j d h'
      exact ⟨v, start_get (of_map_some k1), k2⟩
    · cases z
  · rcases get j _ h with z | ⟨d', z, h'⟩ | ⟨p', ds', z, h'⟩
    · cases z
    · cases z
    · cases z
      obtain ⟨a, xs, k1, k2, k3, k4, _⟩ := E.own j p' ds h'
      have k5 := of_map_some k1
      refine ⟨a, xs, start_get k5, k2, k3, k4, fun i e => ?_⟩
      cases e
      unfold addrOf
      rw [k5]
  · rcases get j _ h1 with z | ⟨d', z, _⟩ | ⟨p', ds', z, h1'⟩
    · cases z
    · cases z
    · rcases get k _ h2 with z | ⟨d', z, _⟩ | ⟨p'', ds'', z, h2'⟩
      · cases z
      · cases z
      · obtain ⟨a, xs, k1, _⟩ := E.own j p' ds' h1'
        obtain ⟨b, ys, k2, _⟩ := E.own k p'' ds'' h2'
        have := E.inj j k p' p'' ds' ds'' n h1' h2'
        rw [k1, k2] at this
        rw [start_get (of_map_some k1), start_get (of_map_some k2)]
        exact this
  · rcases get j _ h1 with z | ⟨d', z, _⟩ | ⟨p', ds', z, h'⟩
    · cases z
    · cases z
    · obtain ⟨a, xs, k1, _⟩ := E.own j p' ds' h'
      rw [start_get (of_map_some k1)] at h2
      cases h2
      exact ⟨j, p', ds', h', k1⟩
theorem fin_aft {K : PySem.W.Frag} {α : Nat → Addr} {F H F' H' : Hp} {N : List Str} {as os ρ : DEn} {vs : List V} {σ' : L2.St} {r : Slo} {v : V} (E : ER K α F H as (vs.map some)) (hl : vs.length ≤ N.length)
    (ho : outsA ρ 0 as = some os) (A : Aft K (addrOf vs) (OwnA (tagA as ++ List.replicate (N.length - vs.length) .un) (L2.start N vs)) F H σ' ρ r v F' H') : Aft K α (OwnA as (vs.map some)) F H (vs.map some) os r v F' H' := by
  obtain ⟨lo, go⟩ := outs_get ho
  obtain ⟨_, sub⟩ := body_er (N := N) E hl
  have own : ∀ (j : Nat) (p : Option Nat) (ds : List PD), os[j]? = some (Slo.own p ds) → ∃ (a : Addr) (xs : List V) (q : Option Nat) (es : List PD), as[j]? = some (Slo.own q es) ∧ (vs.map some)[j]? = some (some (V.ref a)) ∧ ρ[j]? = some (Slo.own (some j) ds) ∧ σ'[j]? = some (some (V.ref a)) ∧ H' a = some (.lst xs) ∧ F' a = none ∧ RpAll K F' xs ds ∧ p = none := fun j p ds h => by
    rcases go j _ h with z | ⟨q, x, y, z, g1, g2⟩
    · cases z
    · cases z
      rw [Nat.zero_add] at g2
      obtain ⟨a, xs, k1, k2, k3, k4, k5⟩ := A.er.own j _ ds g2
      obtain ⟨a0, _, m1, _⟩ := E.own j q y g1
      have e5 := k5 j rfl
      unfold addrOf at e5
      rw [of_map_some m1] at e5
      have e5 : a = a0 := e5
      subst e5
      exact ⟨a, xs, q, y, g1, m1, g2, k1, k2, k3, k4, rfl⟩
  have ownA : ∀ b, OwnA os (vs.map some) b → OwnA ρ σ' b := fun b ⟨j, p, ds, h1, h2⟩ => by
    obtain ⟨a, xs, q, es, g1, g2, g3, g4, _⟩ := own j p ds h1
    rw [g2] at h2
    cases h2
    exact ⟨j, _, ds, g3, g4⟩
  refine ⟨⟨A.er.sub, by rw [lo, E.len], fun j d h => ?_, fun j p ds h => ?_, fun j k p q ds es n h1 h2 => ?_⟩, A.rep, fun b z w => A.dist b z (ownA b w), A.st.mono sub fun b z => z.imp (ownA b) id⟩
  · rcases go j _ h with z | ⟨q, x, y, z, _⟩ <;> cases z
  · obtain ⟨a, xs, q, es, g1, g2, g3, g4, g5, g6, g7, rfl⟩ := own j p ds h
    exact ⟨a, xs, g2, g5, g6, g7, fun _ z => nomatch z⟩
  · obtain ⟨a, xs, q1, es1, g1, g2, _⟩ := own j p ds h1
    obtain ⟨b, ys, q2, es2, g3, g4, _⟩ := own k q es h2
    exact E.inj j k q1 q2 es1 es2 n g1 g3
theorem fn_body {P : Program} {w : World} {K : PySem.W.Frag} {mg : Str → Option Value} {base : Heap} {x qual : Str} {st : Stmt} {f : Addr} {fd : FuncData} {N ps : List Str} {k : Nat} {C : Cfg} {ir : Ir} (Fn : Fun K x qual st f fd) (S : FnScope N ps (defScope st))
    (hb : ∀ (cdv : Value) (A : Around) (outer : List PySem.Env) (s : Shared) (H : Hp) (E : XK), Room k (A.deeper (envOfC qual (defScope st) s.heap.objs.size f cdv)) → A.guards = some [] →
      PSs (cxOf CX0 P w K mg base N qual (defScope st) f cdv A outer s H E).nox (defBody st) (tSt K C ir)) : FnG P w K mg base (k + 1) f fd ps (spF K ps.length (runF C ps.length N.length ir)) := by
  refine fnG_of Fn S (fun vs H Q E h => ?_) fun cdv A outer s H vs Q E hr gd h => ⟨_, hb cdv A outer s H E hr gd, ?_⟩
  · obtain ⟨_, _, _, _, _, h, _⟩ := h
    exact h
  · obtain ⟨α, F, as, r, os, hl, E0, ev, kk⟩ := h
    have hN : ps.length ≤ N.length := by have := congrArg List.length S.pre; rw [List.length_take] at this; omega
    have hvN : vs.length ≤ N.length := by omega
    obtain ⟨Eb, sub⟩ := body_er (N := N) E0 hvN
    unfold runF at ev
    split at ev
    · rw [hl] at Eb
      split at ev
      · rename_i ρ e1
        split at ev
        · rename_i os' e2
          cases ev
          refine ⟨addrOf vs, F, _, _, Eb, e1, fun σ' F' H' e3 s3 => ?_⟩
          have A : Aft K (addrOf vs) (OwnA (tagA as ++ List.replicate (N.length - vs.length) .un) (L2.start N vs)) F H σ' ρ (.val .none) .non F' H' := by
            rw [hl]
            exact ⟨e3, .non, fun b z => absurd z ownV_val, s3.mono (fun _ z => z) fun b z => z.elim id fun z => absurd z ownV_val⟩
          exact kk .non F' H' (fin_aft E0 hvN e2 A)
        · cases ev
      · rename_i r' ρ e1
        split at ev
        · rename_i os' e2
          cases ev
          refine ⟨addrOf vs, F, _, _, Eb, e1, fun v σ' F' H' A => ?_⟩
          have A : Aft K (addrOf vs) (OwnA (tagA as ++ List.replicate (N.length - vs.length) .un) (L2.start N vs)) F H σ' ρ r v F' H' := by
            rw [hl]; exact A
          exact kk v F' H' (fin_aft E0 hvN e2 A)
        · cases ev
      · cases ev
    · cases ev
end Dv

set_option Elab.async false
set_option linter.all false
set_option maxRecDepth 100000
set_option maxHeartbeats 4000000
/-! from the text to the small language -/
namespace Dv
open PySem PySem.Spec PyProof.Rows L2
structure CT where
  N : List Str
  kind : List (Str × NameKind)
  own : List Nat
  fns : List (Str × Nat × List Bool)
  gls : List (Str × Nat)
  blt : List Str
def slotOf (x : Str) : List Str → Nat → Option Nat
  | [], _ => none
  | y :: r, i => if y = x then some i else slotOf x r (i + 1)
theorem slotOf_get {x : Str} : ∀ {N : List Str} {k i : Nat}, slotOf x N k = some i → ∃ j, i = k + j ∧ N[j]? = some x
  | [], _, _, h => by cases h
  | y :: r, k, i, h => by
    unfold slotOf at h
    by_cases c : y = x
    · rw [if_pos c] at h; cases h; exact ⟨0, rfl, by simp [c]⟩
    · rw [if_neg c] at h
      obtain ⟨j, e1, e2⟩ := slotOf_get h
      exact ⟨j + 1, by omega, by simpa using e2⟩
def slotAt (N : List Str) (x : Str) : Option Nat := slotOf x N 0
theorem slotAt_get {N : List Str} {x : Str} {i : Nat} (h : slotAt N x = some i) : N[i]? = some x := by
  obtain ⟨j, e1, e2⟩ := slotOf_get h
  rw [show i = j by omega]; exact e2
theorem slotOf_none {x : Str} : ∀ {N : List Str} {k : Nat}, slotOf x N k = none → x ∉ N
  | [], _, _, z => by cases z
  | y :: r, k, h, z => by
    unfold slotOf at h
    by_cases c : y = x
    · rw [if_pos c] at h; cases h
    · rw [if_neg c] at h
      rcases List.mem_cons.mp z with e | e
      · exact c e.symm
      · exact slotOf_none h e
theorem slotAt_none {N : List Str} {x : Str} (h : slotAt N x = none) : x ∉ N := slotOf_none h
def okName (x : Str) : Bool := !(x == ("__debug__" : Str)) && !(x == ("__classdict__" : Str))
/-- a name that has a slot and may be read -/
def rdName (T : CT) (x : Str) : Option Nat :=
  if okName x = true then match T.kind.lookup x with
    | some .local => slotAt T.N x
    | some .cell => slotAt T.N x
    | some .free => slotAt T.N x
    | _ => none
  else none
def isGlb (T : CT) (x : Str) : Bool := okName x && decide (T.kind.lookup x = some .globalImplicit)
def isBlt (T : CT) (x : Str) : Bool := isGlb T x && T.blt.contains x
def cName (T : CT) (x : Str) : Option Ir := match rdName T x with
  | some i => some (.var i)
  | none => if isGlb T x = true then (T.gls.lookup x).map .glb else none
def cConst : Const → Option Ir
  | .none => some .non
  | .bool b => some (.bl b)
  | .int i => some (.int i)
  | .str x => some (.str x)
  | _ => none
def cBool (op : BoolOp) (f : Expr → Option Ir) : List Expr → Option Ir
  | [] => none
  | [a] => if isIf a = false then f a else none
  | a :: r => if isIf a = false then match f a, cBool op f r with
      | some x, some y => match op with
        | .And => some (.and x y)
        | .Or => some (.or x y)
      | _, _ => none
    else none
def cList (f : Expr → Option Ir) : List Expr → Option Ir
  | [] => some .nil
  | a :: r => match f a, cList f r with
    | some x, some y => some (.cons x y)
    | _, _ => none
def cArg (T : CT) (f : Expr → Option Ir) : Bool → Expr → Option Ir
  | true, .Name x _ => (rdName T x).map .lend
  | true, _ => none
  | false, e => f e
def cArgs (T : CT) (f : Expr → Option Ir) : List Bool → List Expr → Option Ir
  | [], [] => some .nil
  | m :: ms, a :: r => match cArg T f m a, cArgs T f ms r with
    | some x, some y => some (.cons x y)
    | _, _ => none
  | _, _ => none
def cPart (f : Expr → Option Ir) : Option Expr → Option Ir
  | none => some .nil
  | some e => (f e).map fun x => .cons x .nil
def tyAt (x : Str) : Option Ty :=
  if x = tyNS .int then some .int else if x = tyNS .str then some .str else if x = tyNS .bool then some .bool else if x = tyNS .tuple then some .tuple else if x = tyNS .list then some .list else none
theorem tyAt_eq {x : Str} {t : Ty} (h : tyAt x = some t) : x = tyNS t := by
  unfold tyAt at h
  split at h
  · cases h; assumption
  split at h
  · cases h; assumption
  split at h
  · cases h; assumption
  split at h
  · cases h; assumption
  split at h
  · cases h; assumption
  cases h
def stName (T : CT) (x : Str) : Option Nat := match T.kind.lookup x with
  | some .local => slotAt T.N x
  | some .cell => slotAt T.N x
  | _ => none
def cTgs (T : CT) : List Expr → Option Ir
  | [] => some .nil
  | .Name x _ :: r => match stName T x, cTgs T r with
    | some i, some t => some (.cons (.var i) t)
    | _, _ => none
  | _ => none
def cTg (T : CT) : Expr → Option Ir
  | .Name x _ => (stName T x).map .var
  | .Tuple es _ _ => (cTgs T es).map .tup
  | _ => none
def blkT (T : CT) (sc : Scope) : CT := { T with kind := sc.names, own := [] }
def ownOf (N : List Str) (sc : Scope) : List (Str × Nat) := sc.names.filterMap fun y => match y.2 with
  | .local => (slotAt N y.1).map fun i => (y.1, i)
  | .cell => (slotAt N y.1).map fun i => (y.1, i)
  | _ => none
def bC (T : CT) (sc : Scope) : Bool := decide (sc.kind = .function) && (sc.names.all fun y => decide (sc.names.lookup y.1 = some y.2)) && (sc.names.all fun y => match y.2 with
  | .free => decide (T.kind.lookup y.1 = some .cell) || decide (T.kind.lookup y.1 = some .free)
  | _ => true)
def cIter (T : CT) (f : Expr → Option Ir) : Expr → Option Ir
  | .Call (.Name x _) [a] [] _ => if x = "range" ∧ isBlt T "range" = true then (f a).map .rng1 else none
  | .Call (.Name x _) [a, b] [] _ => if x = "range" ∧ isBlt T "range" = true then match f a, f b with
      | some x, some y => some (.rng2 x y)
      | _, _ => none
    else none
  | _ => none
def cIt (T : CT) (f : Expr → Option Ir) (e : Expr) : Option Ir := match cIter T f e with
  | some x => some x
  | none => (f e).map fun x => .cons x .nil
def cCond (f : Expr → Option Ir) : List Expr → Option Ir
  | [] => some (.bl true)
  | [c] => if isIf c = false then f c else none
  | _ => none
def cComp (T : CT) (f : Expr → Option Ir) (g : CT → Expr → Option Ir) (elt : Expr) (gs : List Comprehension) (sc : Scope) : Option Ir := match gs with
  | [⟨tg, iter, ifs, 0⟩] =>
    if bC T sc = true ∧ tame iter = true then
      match cIt T f iter, cTg (blkT T sc) tg, cCond (g (blkT T sc)) ifs, g (blkT T sc) elt with
      | some it, some t, some c, some e => if (tgts t).all (fun j => (ownOf T.N sc).any fun p => p.2 == j) = true then some (.comp t it c e ((ownOf T.N sc).map (·.2))) else none
      | _, _, _, _ => none
    else none
  | _ => none
def ownName (T : CT) : Expr → Bool
  | .Name x _ => match rdName T x with
    | some i => T.own.contains i
    | none => false
  | _ => false
def fitsF (T : CT) : List Bool → List Expr → Bool
  | [], [] => true
  | m :: ms, e :: es => (m == ownName T e) && fitsF T ms es
  | _, _ => false
/-- a def may stand here more than once: by which of its lists are lent -/
def pickF (T : CT) (x : Str) (es : List Expr) : Option (Nat × List Bool) := match T.fns.find? fun p => p.1 == x && fitsF T p.2.2 es with
  | some p => some p.2
  | none => T.fns.lookup x
def cCall (T : CT) (f : Expr → Option Ir) (x : Str) (es : List Expr) : Option Ir :=
  if isGlb T x = true then
    match pickF T x es with
    | some (fi, ms) => (cArgs T f ms es).map (.call fi)
    | none =>
      if T.blt.contains x = true then
        if x = "isinstance" then match es with
          | [a, .Name y _] => match tyAt y, f a with
            | some t, some ia => if isBlt T (tyNS t) = true then some (.isi [t] ia) else none
            | _, _ => none
          | [a, .Tuple [.Name y _, .Name z _] _ _] => match tyAt y, tyAt z, f a with
            | some t, some t', some ia => if isBlt T (tyNS t) = true ∧ isBlt T (tyNS t') = true then some (.isi [t, t'] ia) else none
            | _, _, _ => none
          | _ => none
        else match es, prOf x with
          | _ :: _, some p => (cList f es).map (.prim p)
          | _, _ => none
      else none
  else none
def cMeth (T : CT) (f : Expr → Option Ir) (x m : Str) (es : List Expr) (sameLine : Bool) : Option Ir :=
  if sameLine = true then match rdName T x with
    | some i => match es with
      | [e] => if m = "append" then (f e).map (.app i) else if m = "extend" then (f e).map (.ext i) else none
      | [] => if m = "pop" then some (.pop i) else if m = "clear" then some (.clr i) else none
      | _ => none
    | none => none
  else none
def cText (f : Expr → Option Ir) (o : Expr) (m : Str) (es : List Expr) (sameLine : Bool) : Option Ir :=
  if sameLine = true ∧ es.length < 20 then match es, mtOf m, f o, cList f es with
    | _ :: _, some mt, some io, some ies => some (.meth mt io ies)
    | _, _, _, _ => none
  else none
def cAttr (T : CT) (f : Expr → Option Ir) (o : Expr) (m : Str) (es : List Expr) (sameLine : Bool) : Option Ir := match o with
  | .Name x p => match cMeth T f x m es sameLine with
    | some ir => some ir
    | none => cText f (.Name x p) m es sameLine
  | .Constant c kk p => cText f (.Constant c kk p) m es sameLine
  | _ => none
def cE1 (T : CT) (f : Expr → Option Ir) (g : CT → Expr → Option Ir) : Expr → Option Ir
  | .Name x _ => cName T x
  | .Constant c _ _ => cConst c
  | .BinOp a op b _ => match bopOf op, f a, f b with
    | some o, some x, some y => some (.bin o x y)
    | _, _, _ => none
  | .UnaryOp .USub a _ => (f a).map .neg
  | .UnaryOp .Not a _ => if isIf a = false then (f a).map .not else none
  | .BoolOp op (a :: b :: r) _ => cBool op f (a :: b :: r)
  | .IfExp c a b _ => if isIf c = false then match f c, f a, f b with
      | some x, some y, some z => some (.ife x y z)
      | _, _, _ => none
    else none
  | .Compare a [op] [b] _ => match copOf op, f a, f b with
    | some o, some x, some y => some (.cmp o x y)
    | _, _, _ => none
  | .Compare a [op, op'] [b, c] _ => match copOf op, copOf op', f a, f b, f c with
    | some o, some p, some x, some y, some z => some (.chain o p x y z)
    | _, _, _, _, _ => none
  | .Subscript a (.Slice lo hi none _) _ => match f a, cPart f lo, cPart f hi with
    | some x, some l, some h => some (.slc x l h)
    | _, _, _ => none
  | .Subscript a (.Slice none none (some (.UnaryOp .USub (.Constant (.int 1) _ _) _)) _) _ => (f a).map .rev
  | .Subscript a b _ => match f a, f b with
    | some x, some y => some (.sub x y)
    | _, _ => none
  | .Tuple es _ _ => (cList f es).map .tup
  | .List es _ => (cList f es).map .lst
  | .Call (.Name x _) es [] _ => cCall T f x es
  | .Call (.Attribute o m apos) es [] pos => cAttr T f o m es (apos.endLine == pos.line)
  | .ListComp elt gs sc _ => cComp T f g elt gs sc
  | _ => none
def cE : Nat → CT → Expr → Option Ir
  | 0, _, _ => none
  | n + 1, T, e => cE1 T (cE n T) (fun T' => cE n T') e

/-- a context fits -/
structure CxOk (X : Cx) (T : CT) (C : Cfg) (k : Nat) : Prop where
  N : X.N = T.N
  nd : X.N.Nodup
  sk : X.env.scope.kind = .function
  kinds : ∀ x q, T.kind.lookup x = some q → ∃ q', X.env.scope.names.lookup x = some q' ∧ (q' = q ∨ (q = .free ∧ q' = .cell))
  calm : X.calm = true
  room : Room k X.A
  gd : X.A.guards = some []
  pass : PassesOwn (model X.prog X.w) X.A X.env X.xe
  fnc : ∀ x, T.kind.lookup x = some .cell → X.fn x = true
  fns : ∀ x f fl, (x, f, fl) ∈ T.fns → FnD X k x fl.length (C.fn f) ∧ ∀ as r os, C.fn f as = some (r, os) → as.length = fl.length
  blt : ∀ x ∈ T.blt, X.mg x = none
  gls : ∀ x g, (x, g) ∈ T.gls → ∃ v u d, X.mg x = some u ∧ RelV v u ∧ C.gl g = some d ∧ ∀ F, Rp X.K F v d
theorem mem_lookup {β : Type} : ∀ {l : List (Str × β)} {x : Str} {b : β}, l.lookup x = some b → (x, b) ∈ l
  | [], _, _, h => by cases h
  | (y, c) :: r, x, b, h => by
    rw [List.lookup_cons] at h
    cases e : x == y with
    | true =>
      rw [e] at h
      cases h
      rw [eq_of_beq e]; exact List.mem_cons_self
    | false =>
      rw [e] at h
      exact List.mem_cons_of_mem _ (mem_lookup h)
theorem mem_pickF {T : CT} {x : Str} {es : List Expr} {fi : Nat} {ms : List Bool} (h : pickF T x es = some (fi, ms)) : (x, fi, ms) ∈ T.fns := by
  unfold pickF at h
  split at h
  · rename_i p e
    obtain ⟨y, z⟩ := p
    have h : z = (fi, ms) := Option.some.inj h
    subst h
    have m := List.mem_of_find?_eq_some e
    have q := List.find?_some e
    rw [Bool.and_eq_true] at q
    have : y = x := eq_of_beq q.1
    subst this
    exact m
  · exact mem_lookup h
section
variable {X : Cx} {T : CT} {C : Cfg} {k : Nat}
theorem okName_1 {x : Str} (h : okName x = true) : (x == ("__debug__" : Str)) = false ∧ (x == ("__classdict__" : Str)) = false := by
  unfold okName at h
  simp only [Bool.and_eq_true, Bool.not_eq_true'] at h
  exact h
theorem CxOk.vis (O : CxOk X T C k) {x : Str} {q : NameKind} (h : T.kind.lookup x = some q) (hq : q = .local ∨ q = .cell ∨ q = .free) : Vis X.env.scope x := by
  obtain ⟨q', e1, e2⟩ := O.kinds x q h
  unfold Vis
  rcases e2 with rfl | ⟨rfl, rfl⟩
  · rcases hq with rfl | rfl | rfl
    · exact .inl e1
    · exact .inr (.inl e1)
    · exact .inr (.inr e1)
  · exact .inr (.inl e1)
theorem CxOk.glb (O : CxOk X T C k) {x : Str} (h : isGlb T x = true) : Gl X x ∧ (x == ("__debug__" : Str)) = false := by
  unfold isGlb at h
  simp only [Bool.and_eq_true, decide_eq_true_eq] at h
  obtain ⟨q', e1, e2⟩ := O.kinds x _ h.2
  rcases e2 with rfl | ⟨z, _⟩
  · exact ⟨e1, (okName_1 h.1).1⟩
  · cases z
theorem CxOk.bltn (O : CxOk X T C k) {x : Str} (h : isBlt T x = true) : Gl X x ∧ X.mg x = none := by
  unfold isBlt at h
  rw [Bool.and_eq_true] at h
  exact ⟨(O.glb h.1).1, O.blt x (by simpa using h.2)⟩
theorem CxOk.rd (O : CxOk X T C k) {x : Str} {i : Nat} {pos : Pos} (h : rdName T x = some i) : PE X (.Name x pos) (tVar i) := by
  unfold rdName at h
  split at h
  · rename_i ok
    obtain ⟨o1, o2⟩ := okName_1 ok
    split at h
    · rename_i e; exact pe_var (by rw [O.N]; exact slotAt_get h) (O.vis e (.inl rfl)) o1 o2
    · rename_i e; exact pe_var (by rw [O.N]; exact slotAt_get h) (O.vis e (.inr (.inl rfl))) o1 o2
    · rename_i e; exact pe_var (by rw [O.N]; exact slotAt_get h) (O.vis e (.inr (.inr rfl))) o1 o2
    · cases h
  · cases h
theorem CxOk.st (O : CxOk X T C k) {x : Str} {i : Nat} (h : stName T x = some i) : X.N[i]? = some x ∧ Loc X.env.scope x ∧ (X.fn x = true ∨ X.env.scope.names.lookup x = some .local) := by
  unfold stName at h
  split at h
  · rename_i e
    obtain ⟨q', e1, e2⟩ := O.kinds x _ e
    rcases e2 with rfl | ⟨z, _⟩
    · exact ⟨by rw [O.N]; exact slotAt_get h, .inl e1, .inr e1⟩
    · cases z
  · rename_i e
    obtain ⟨q', e1, e2⟩ := O.kinds x _ e
    rcases e2 with rfl | ⟨z, _⟩
    · exact ⟨by rw [O.N]; exact slotAt_get h, .inr e1, .inl (O.fnc x e)⟩
    · cases z
  · cases h
theorem CxOk.pgn (O : CxOk X T C k) {x : Str} {i : Nat} {pos : Pos} (h : stName T x = some i) : PG X (.Name x pos) (gName i) := by
  obtain ⟨h1, h2, h3⟩ := O.st h
  exact pg_name O.nd h1 h2 h3
theorem CxOk.units (O : CxOk X T C k) : X.A.units + 64 < cLine := O.room.units
theorem CxOk.names (O : CxOk X T C k) : ∀ {es : List Expr} {t : Ir}, cTgs T es = some t → Names X es t
  | [], t, h => by simp only [cTgs] at h; cases h; exact .nil
  | e :: es, t, h => by
    cases e <;> simp only [cTgs] at h <;> try cases h
    split at h
    · rename_i i t' e1 e2
      cases h
      exact .cons (O.pgn e1) (O.names e2)
    · cases h
theorem CxOk.tg (O : CxOk X T C k) {e : Expr} {t : Ir} (h : cTg T e = some t) : PG X e (tAsg X.K t) := by
  cases e <;> simp only [cTg] at h <;> try cases h
  · rename_i x p
    cases e1 : stName T x with
    | none => rw [e1] at h; cases h
    | some i => rw [e1] at h; cases h; exact dg_name (O.pgn e1)
  · rename_i es kk p
    cases e1 : cTgs T es with
    | none => rw [e1] at h; cases h
    | some t' => rw [e1] at h; cases h; exact dg_tup O.calm (O.names e1)
/-- a comprehension's block -/
theorem relabel_free {sc : Scope} {kd : ScopeKind} {look : Str → Option NameKind} : ∀ {names : List (Str × NameKind)} {x : Str} {q : NameKind}, names.lookup x = some q →
    ∃ q', (names.map fun (n, k) => if (k == NameKind.free && kd == .function && look n == some .cell) then (n, NameKind.cell) else (n, k)).lookup x = some q' ∧ (q' = q ∨ (q = .free ∧ q' = .cell))
  | [], _, _, h => by cases h
  | (n, k0) :: r, x, q, h => by
    show ∃ q', List.lookup x ((if (k0 == NameKind.free && kd == .function && look n == some .cell) = true then (n, NameKind.cell) else (n, k0)) :: (r.map _)) = some q' ∧ _
    rw [List.lookup_cons] at h
    cases hx : x == n with
    | true =>
      rw [hx] at h
      cases h
      by_cases hc : (k0 == NameKind.free && kd == .function && look n == some .cell) = true
      · rw [if_pos hc]
        simp only [Bool.and_eq_true, beq_iff_eq] at hc
        exact ⟨.cell, by rw [List.lookup_cons, hx], .inr ⟨hc.1.1, rfl⟩⟩
      · rw [if_neg hc]
        exact ⟨k0, by rw [List.lookup_cons, hx], .inl rfl⟩
    | false =>
      rw [hx] at h
      obtain ⟨q', e1, e2⟩ := relabel_free (sc := sc) (kd := kd) (look := look) h
      refine ⟨q', ?_, e2⟩
      by_cases hc : (k0 == NameKind.free && kd == .function && look n == some .cell) = true
      · rw [if_pos hc, List.lookup_cons, hx]; exact e1
      · rw [if_neg hc, List.lookup_cons, hx]; exact e1
theorem CxOk.blkO (O : CxOk X T C k) {sc : Scope} (h : bC T sc = true) (s : Shared) (H : Hp) (C' : Addr) (cl : List (Str × Addr)) (fp : List Addr) : CxOk (X.blk s H sc (compEnvC sc cl C' X.env) fp) (blkT T sc) C k where
  N := O.N
  nd := O.nd
  sk := by
    unfold bC at h
    simp only [Bool.and_eq_true, decide_eq_true_eq] at h
    exact h.1.1
  kinds := fun x q e => relabel_free (sc := sc) (kd := X.env.scope.kind) (look := X.env.kindOf) e
  calm := O.calm
  room := O.room
  gd := O.gd
  pass := PassesOwn.never
  fnc := fun x e => by
    show (sc.names.lookup x == some .cell) = true
    have e' : sc.names.lookup x = some .cell := e
    rw [e']; rfl
  fns := fun x f fl h => ⟨⟨(O.fns x f fl h).1.ex⟩, (O.fns x f fl h).2⟩
  blt := O.blt
  gls := O.gls
theorem CxOk.blkOk (O : CxOk X T C k) {sc : Scope} (h : bC T sc = true) : BlkOk X.N X.env.scope sc (ownOf T.N sc) := by
  unfold bC at h
  simp only [Bool.and_eq_true, decide_eq_true_eq, List.all_eq_true] at h
  obtain ⟨⟨h1, h2⟩, h3⟩ := h
  refine ⟨h1, h2, fun p hp => ?_, fun y hy e => ?_, fun y hy e => ?_⟩
  · unfold ownOf at hp
    obtain ⟨y, hy, e⟩ := List.mem_filterMap.mp hp
    rw [O.N]
    split at e
    · cases e1 : slotAt T.N y.1 with
      | none => rw [e1] at e; cases e
      | some i => rw [e1] at e; cases e; exact slotAt_get e1
    · cases e1 : slotAt T.N y.1 with
      | none => rw [e1] at e; cases e
      | some i => rw [e1] at e; cases e; exact slotAt_get e1
    · cases e
  · have q := h3 y hy
    rw [e] at q
    simp only [Bool.or_eq_true, decide_eq_true_eq] at q
    rcases q with q | q
    · obtain ⟨q', e1, e2⟩ := O.kinds _ _ q
      rcases e2 with rfl | ⟨z, _⟩
      · exact .inl e1
      · cases z
    · obtain ⟨q', e1, e2⟩ := O.kinds _ _ q
      rcases e2 with rfl | ⟨_, rfl⟩
      · exact .inr e1
      · exact .inl e1
  · cases e1 : slotAt T.N y.1 with
    | some i =>
      left
      unfold ownOf
      refine List.mem_map.mpr ⟨(y.1, i), List.mem_filterMap.mpr ⟨y, hy, ?_⟩, rfl⟩
      rcases e with e | e <;> (rw [e, e1]; rfl)
    | none => right; rw [O.N]; exact slotAt_none e1
end
end Dv

set_option Elab.async false
set_option linter.all false
set_option maxRecDepth 100000
set_option maxHeartbeats 8000000
/-! what the small language says of the text holds: expressions -/
namespace Dv
open PySem PySem.Spec PyProof.Rows L2
section
variable {X : Cx} {T : CT} {C : Cfg} {k : Nat} {f : Expr → Option Ir} {g : CT → Expr → Option Ir}
abbrev Good (X : Cx) (C : Cfg) (f : Expr → Option Ir) : Prop := ∀ e ir, f e = some ir → DX X C e ir
theorem cName_ok (O : CxOk X T C k) {x : Str} {pos : Pos} {ir : Ir} (h : cName T x = some ir) : DX X C (.Name x pos) ir := by
  unfold cName at h
  split at h
  · rename_i i e
    cases h
    exact dx_var (O.rd e)
  · split at h
    · rename_i gb
      cases e : T.gls.lookup x with
      | none => rw [e] at h; cases h
      | some gi =>
        rw [e] at h
        cases h
        obtain ⟨v, u, d, h1, h2, h3, h4⟩ := O.gls x gi (mem_lookup e)
        obtain ⟨g1, g2⟩ := O.glb gb
        exact dx_const (pe_glob g1 h1 h2 g2) h4 (fun ρ => by simp only [evX, h3]) rfl rfl rfl
    · cases h
theorem cConst_ok {c : Const} {kk : Nat} {pos : Pos} {ir : Ir} (h : cConst c = some ir) : DX X C (.Constant c kk pos) ir := by
  cases c <;> simp only [cConst] at h <;> cases h
  · exact dx_non
  · exact dx_bl
  · exact dx_int
  · exact dx_str
theorem cBool_db (G : Good X C f) {op : BoolOp} {pos : Pos} : ∀ {es : List Expr} {ir : Ir}, cBool op f es = some ir → DB X C op es pos ir
  | [], ir, h => by simp only [cBool] at h; cases h
  | [a], ir, h => by
    simp only [cBool] at h
    split at h
    · rename_i hi
      cases op
      · exact db_and1 (G _ _ h) hi
      · exact db_or1 (G _ _ h) hi
    · cases h
  | a :: b :: r, ir, h => by
    simp only [cBool] at h
    split at h
    · rename_i hi
      split at h
      · rename_i x y e1 e2
        have ih := cBool_db G (op := op) (pos := pos) (es := b :: r) e2
        cases op
        · cases h; exact db_and (G _ _ e1) hi ih
        · cases h; exact db_or (G _ _ e1) hi ih
      · cases h
    · cases h
theorem cBool_ok (G : Good X C f) {op : BoolOp} {pos : Pos} {a b : Expr} {r : List Expr} {ir : Ir} (h : cBool op f (a :: b :: r) = some ir) : DX X C (.BoolOp op (a :: b :: r) pos) ir := by
  have D := cBool_db G (pos := pos) h
  simp only [cBool] at h
  split at h
  · split at h
    · cases op
      · cases h; exact dx_and D
      · cases h; exact dx_or D
    · cases h
  · cases h
theorem cList_ok (G : Good X C f) (m : Bool) : ∀ {es : List Expr} {ir : Ir}, cList f es = some ir → DL X C m es ir
  | [], ir, h => by simp only [cList] at h; cases h; exact dl_nil
  | a :: r, ir, h => by
    simp only [cList] at h
    split at h
    · rename_i x y e1 e2
      cases h
      exact dl_cons ((G _ _ e1).o m) (G _ _ e1).tm (cList_ok G m e2)
    · cases h
theorem cArgs_ok (O : CxOk X T C k) (G : Good X C f) : ∀ {ms : List Bool} {es : List Expr} {ir : Ir}, cArgs T f ms es = some ir → DL X C false es ir
  | [], [], ir, h => by simp only [cArgs] at h; cases h; exact dl_nil
  | [], _ :: _, ir, h => by simp only [cArgs] at h; cases h
  | _ :: _, [], ir, h => by simp only [cArgs] at h; cases h
  | m :: ms, a :: r, ir, h => by
    simp only [cArgs] at h
    split at h
    · rename_i x y e1 e2
      cases h
      have ih := cArgs_ok O G e2
      cases m with
      | false =>
        have e1' : f a = some x := by cases a <;> exact e1
        exact dl_cons ((G _ _ e1').o false) (G _ _ e1').tm ih
      | true =>
        cases a <;> simp only [cArg] at e1 <;> try cases e1
        rename_i nm p
        cases e3 : rdName T nm with
        | none => rw [e3] at e1; cases e1
        | some i =>
          rw [e3] at e1
          cases e1
          exact dl_cons (pe_lend false (O.rd e3)) rfl ih
    · cases h
theorem cPart_ok (G : Good X C f) {o : Option Expr} {ir : Ir} (h : cPart f o = some ir) : PO X o (tP X.K C ir) := by
  cases o with
  | none => simp only [cPart] at h; cases h; exact dp_none
  | some e =>
    simp only [cPart] at h
    cases e1 : f e with
    | none => rw [e1] at h; cases h
    | some x => rw [e1] at h; cases h; exact dp_some (G _ _ e1)
theorem mapSome {α β : Type} {o : Option α} {w : α → β} {b : β} (h : o.map w = some b) : ∃ a, o = some a ∧ w a = b := by
  cases o with
  | none => cases h
  | some a => exact ⟨a, rfl, Option.some.inj h⟩
theorem notLend_of (G : Good X C f) {e : Expr} {ir : Ir} (h : f e = some ir) (ne : ∀ i, ir ≠ .lend i) : notLend ir = true := by
  cases ir <;> first | rfl | exact absurd rfl (ne _)
theorem cIt_ok (O : CxOk X T C k) (G : Good X C f) (NL : ∀ e ir, f e = some ir → notLend ir = true) {tg e : Expr} {ir : Ir} {m : Bool} (h : cIt T f e = some ir) : PI X tg e (tIt X.K C m ir) := by
  unfold cIt at h
  split at h
  · rename_i x e1
    cases h
    unfold cIter at e1
    split at e1
    · split at e1
      · rename_i hc
        obtain ⟨rfl, hb⟩ := hc
        obtain ⟨a, e2, e3⟩ := mapSome e1
        subst e3
        obtain ⟨g1, g2⟩ := O.bltn hb
        exact di_rng1 g1 g2 (G _ _ e2)
      · cases e1
    · split at e1
      · rename_i hc
        obtain ⟨rfl, hb⟩ := hc
        split at e1
        · rename_i x' y' e2 e3
          cases e1
          obtain ⟨g1, g2⟩ := O.bltn hb
          exact di_rng2 g1 g2 (G _ _ e2) (G _ _ e3)
        · cases e1
      · cases e1
    · cases e1
  · obtain ⟨a, e2, e3⟩ := mapSome h
    subst e3
    exact di_seq (NL _ _ e2) ((G _ _ e2).o m)
theorem cCond_ok (G : Good X C f) {ifs : List Expr} {ir : Ir} (h : cCond f ifs = some ir) : PTs X ifs (tT X.K C ir) := by
  unfold cCond at h
  split at h
  · cases h
    refine ⟨fun pins s σ H Q I q => pts_nil.run pins s σ H Q I ?_⟩
    obtain ⟨α, F, ρ, b, ρ', E, ev, kk⟩ := q
    simp only [evX] at ev
    cases ev
    exact kk F H E .refl
  · split at h
    · rename_i hi
      exact pts_one ((G _ _ h).t hi)
    · cases h
  · cases h
/-- what a comprehension's parts say -/
structure CompOk (X : Cx) (T : CT) (C : Cfg) (elt : Expr) (gs : List Comprehension) (sc : Scope) (ir : Ir) : Prop where
  ex : ∃ tg iter ifs it t c e, gs = [⟨tg, iter, ifs, 0⟩] ∧ ir = .comp t it c e ((ownOf T.N sc).map (·.2)) ∧ tame iter = true ∧ PI X tg iter (tIt X.K C true it) ∧ BlkOk X.N X.env.scope sc (ownOf T.N sc) ∧
    (∀ (s : Shared) (H : Hp) (C' : Addr) (cl : List (Str × Addr)) (fp : List Addr), PG (X.blk s H sc (compEnvC sc cl C' X.env) fp) tg (tAsg X.K t)) ∧
    (∀ (s : Shared) (H : Hp) (C' : Addr) (cl : List (Str × Addr)) (fp : List Addr), PTs (X.blk s H sc (compEnvC sc cl C' X.env) fp) ifs (tT X.K C c)) ∧
    (∀ (s : Shared) (H : Hp) (C' : Addr) (cl : List (Str × Addr)) (fp : List Addr), PE (X.blk s H sc (compEnvC sc cl C' X.env) fp) elt (tX X.K C e)) ∧
    ∀ j, j ∈ tgts t → j ∈ (ownOf T.N sc).map (·.2)
theorem cComp_ok (O : CxOk X T C k) (G : Good X C f) (NL : ∀ e ir, f e = some ir → notLend ir = true) (GB : ∀ (X' : Cx) (T' : CT), CxOk X' T' C k → Good X' C (g T')) {elt : Expr} {gs : List Comprehension} {sc : Scope} {ir : Ir} (h : cComp T f g elt gs sc = some ir) :
    CompOk X T C elt gs sc ir := by
  unfold cComp at h
  split at h
  · rename_i tg iter ifs
    split at h
    · rename_i hc
      obtain ⟨hb, tm⟩ := hc
      split at h
      · rename_i it t c e e1 e2 e3 e4
        split at h
        · rename_i hv
          cases h
          have OB := fun s H C' cl fp => O.blkO hb s H C' cl fp
          refine ⟨tg, iter, ifs, it, t, c, e, rfl, rfl, tm, cIt_ok O G NL e1, O.blkOk hb, fun s H C' cl fp => (OB s H C' cl fp).tg e2, fun s H C' cl fp => cCond_ok (GB _ _ (OB s H C' cl fp)) e3, fun s H C' cl fp => (GB _ _ (OB s H C' cl fp) _ _ e4).x, fun j hj => ?_⟩
          have q := List.all_eq_true.mp hv j hj
          obtain ⟨p, hp, e5⟩ := List.any_eq_true.mp q
          exact List.mem_map.mpr ⟨p, hp, by simpa using e5⟩
        · cases h
      · cases h
    · cases h
  · cases h
theorem CompOk.dx (O : CxOk X T C k) {elt : Expr} {gs : List Comprehension} {sc : Scope} {ir : Ir} {pos : Pos} (h : CompOk X T C elt gs sc ir) : DX X C (.ListComp elt gs sc pos) ir := by
  obtain ⟨tg, iter, ifs, it, t, c, e, rfl, rfl, tm, hi, ok, hg, ht, he, hv⟩ := h.ex
  exact .mk' (pe_mono (pe_lc O.calm O.nd hi ok hg ht he (fun x => tame_fold tm X.env x)) fun σ H Q q => dx_comp O.calm O.nd tm hi ok hg ht he hv σ H Q q) rfl rfl rfl
theorem cCall_ok (O : CxOk X T C k) (G : Good X C f) {x : Str} {es : List Expr} {ir : Ir} {np pos : Pos} (h : cCall T f x es = some ir) : DX X C (.Call (.Name x np) es [] pos) ir := by
  unfold cCall at h
  split at h
  · rename_i gb
    obtain ⟨g1, g2⟩ := O.glb gb
    split at h
    · rename_i fi ms e1
      obtain ⟨a, e2, e3⟩ := mapSome h
      subst e3
      obtain ⟨Fd, hn⟩ := O.fns x fi ms (mem_pickF e1)
      have L := cArgs_ok O G e2
      cases es with
      | nil =>
        have ea : a = .nil := by
          cases ms with
          | nil => simp only [cArgs] at e2; cases e2; rfl
          | cons _ _ => simp only [cArgs] at e2; cases e2
        subst ea
        exact dx_call0 Fd hn O.room O.gd g1 g2
      | cons e es => exact dx_call Fd hn O.room O.gd g1 g2 L
    · split at h
      · rename_i hb
        have hm : X.mg x = none := O.blt x (by simpa using hb)
        split at h
        · rename_i hx
          subst hx
          split at h
          · rename_i a y p
            split at h
            · rename_i t ia e1 e2
              split at h
              · rename_i hbt
                cases h
                have := tyAt_eq e1
                subst this
                obtain ⟨b1, b2⟩ := O.bltn hbt
                exact dx_isi1 g1 hm b1 b2 (G _ _ e2)
              · cases h
            · cases h
          · rename_i a y p z p' kk tp
            split at h
            · rename_i t t' ia e1 e2 e3
              split at h
              · rename_i hbt
                cases h
                have := tyAt_eq e1
                subst this
                have := tyAt_eq e2
                subst this
                obtain ⟨b1, b2⟩ := O.bltn hbt.1
                obtain ⟨b3, b4⟩ := O.bltn hbt.2
                exact dx_isi2 g1 hm b1 b2 b3 b4 (G _ _ e3)
              · cases h
            · cases h
          · cases h
        · split at h
          · rename_i e es p e1 _
            obtain ⟨a, e2, e3⟩ := mapSome h
            subst e3
            exact dx_prim e1 O.calm (by have := O.room.un; omega) O.gd g1 hm (cList_ok G true e2)
          · cases h
      · cases h
  · cases h
theorem cMeth_ok (O : CxOk X T C k) (G : Good X C f) {x m : Str} {es : List Expr} {ir : Ir} {np apos pos : Pos} (h : cMeth T f x m es (apos.endLine == pos.line) = some ir) : DX X C (.Call (.Attribute (.Name x np) m apos) es [] pos) ir := by
  unfold cMeth at h
  split at h
  · rename_i hl
    split at h
    · rename_i i e0
      have hv := fun p => O.rd (pos := p) e0
      split at h
      · rename_i e
        split at h
        · rename_i hm
          subst hm
          obtain ⟨a, e2, e3⟩ := mapSome h
          subst e3
          exact dx_app (hv np) (G _ _ e2) hl
        · split at h
          · rename_i hm
            subst hm
            obtain ⟨a, e2, e3⟩ := mapSome h
            subst e3
            exact dx_ext (hv np) (G _ _ e2) hl
          · cases h
      · split at h
        · rename_i hm
          subst hm
          cases h
          exact dx_pop (hv np) hl
        · split at h
          · rename_i hm
            subst hm
            cases h
            exact dx_clr (hv np) hl
          · cases h
      · cases h
    · cases h
  · cases h
theorem cText_ok (G : Good X C f) {o : Expr} {m : Str} {es : List Expr} {ir : Ir} {apos pos : Pos} (hb : attributeBase o m X.env (eval o X.env) = eval o X.env) (h : cText f o m es (apos.endLine == pos.line) = some ir) : DX X C (.Call (.Attribute o m apos) es [] pos) ir := by
  unfold cText at h
  split at h
  · rename_i hc
    split at h
    · rename_i e es' mt io ies e1 e2 e3
      cases h
      exact dx_meth e1 (G _ _ e2) hb (cList_ok G true e3) hc.1 hc.2
    · cases h
  · cases h
theorem cAttr_ok (O : CxOk X T C k) (G : Good X C f) {o : Expr} {m : Str} {es : List Expr} {ir : Ir} {apos pos : Pos} (h : cAttr T f o m es (apos.endLine == pos.line) = some ir) : DX X C (.Call (.Attribute o m apos) es [] pos) ir := by
  unfold cAttr at h
  split at h
  · split at h
    · rename_i ir' e1
      cases h
      exact cMeth_ok O G e1
    · exact cText_ok G rfl h
  · exact cText_ok G rfl h
  · cases h
theorem cE1_ok (O : CxOk X T C k) (G : Good X C f) (NL : ∀ e ir, f e = some ir → notLend ir = true) (GB : ∀ (X' : Cx) (T' : CT), CxOk X' T' C k → Good X' C (g T')) : Good X C (cE1 T f g) := by
  intro e ir h
  unfold cE1 at h
  split at h
  · exact cName_ok O h
  · exact cConst_ok h
  · split at h
    · rename_i o x y e1 e2 e3
      cases h
      exact dx_bin e1 (G _ _ e2) (G _ _ e3)
    · cases h
  · obtain ⟨a, e2, e3⟩ := mapSome h
    subst e3
    exact dx_neg (G _ _ e2)
  · split at h
    · rename_i hi
      obtain ⟨a, e2, e3⟩ := mapSome h
      subst e3
      exact dx_not (G _ _ e2) hi
    · cases h
  · exact cBool_ok G h
  · split at h
    · rename_i hi
      split at h
      · rename_i x y z e1 e2 e3
        cases h
        exact dx_ife (G _ _ e1) hi (G _ _ e2) (G _ _ e3)
      · cases h
    · cases h
  · split at h
    · rename_i o x y e1 e2 e3
      cases h
      exact dx_cmp e1 O.units (G _ _ e2) (G _ _ e3)
    · cases h
  · split at h
    · rename_i o p x y z e1 e2 e3 e4 e5
      cases h
      exact dx_chain e1 e2 O.units (G _ _ e3) (G _ _ e4) (G _ _ e5)
    · cases h
  · split at h
    · rename_i x l hh e1 e2 e3
      cases h
      exact dx_slc (G _ _ e1) (cPart_ok G e2) (cPart_ok G e3)
    · cases h
  · obtain ⟨a, e2, e3⟩ := mapSome h
    subst e3
    exact dx_rev (G _ _ e2)
  · split at h
    · rename_i x y e1 e2
      cases h
      exact dx_sub (G _ _ e1) (G _ _ e2)
    · cases h
  · obtain ⟨a, e2, e3⟩ := mapSome h
    subst e3
    exact dx_tup (cList_ok G false e2)
  · obtain ⟨a, e2, e3⟩ := mapSome h
    subst e3
    exact dx_lst (cList_ok G false e2)
  · exact cCall_ok O G h
  · exact cAttr_ok O G h
  · exact (cComp_ok O G NL GB h).dx O
  · cases h
end
end Dv

set_option Elab.async false
set_option linter.all false
set_option maxRecDepth 100000
set_option maxHeartbeats 8000000
/-! what the small language says of the text holds: statements -/
namespace Dv
open PySem PySem.Spec PyProof.Rows L2
theorem lend_map {α : Type} {o : Option α} {w : α → Ir} {ir : Ir} (h : o.map w = some ir) (n : ∀ a, notLend (w a) = true) : notLend ir = true := by
  obtain ⟨a, _, rfl⟩ := mapSome h
  exact n a
theorem cE1_lend {T : CT} {f : Expr → Option Ir} {g : CT → Expr → Option Ir} {e : Expr} {ir : Ir} (h : cE1 T f g e = some ir) : notLend ir = true := by
  unfold cE1 at h
  split at h
  · unfold cName at h
    split at h
    · cases h; rfl
    · split at h
      · exact lend_map h fun _ => rfl
      · cases h
  · rename_i c _ _
    cases c <;> simp only [cConst] at h <;> cases h <;> rfl
  · split at h <;> cases h; rfl
  · exact lend_map h fun _ => rfl
  · split at h
    · exact lend_map h fun _ => rfl
    · cases h
  · rename_i op a b r _
    simp only [cBool] at h
    split at h
    · split at h
      · cases op <;> cases h <;> rfl
      · cases h
    · cases h
  · split at h
    · split at h <;> cases h; rfl
    · cases h
  · split at h <;> cases h; rfl
  · split at h <;> cases h; rfl
  · split at h <;> cases h; rfl
  · exact lend_map h fun _ => rfl
  · split at h <;> cases h; rfl
  · exact lend_map h fun _ => rfl
  · exact lend_map h fun _ => rfl
  · unfold cCall at h
    split at h
    · split at h
      · exact lend_map h fun _ => rfl
      · split at h
        · split at h
          · split at h
            · split at h
              · split at h <;> cases h; rfl
              · cases h
            · split at h
              · split at h <;> cases h; rfl
              · cases h
            · cases h
          · split at h
            · exact lend_map h fun _ => rfl
            · cases h
        · cases h
    · cases h
  · unfold cAttr at h
    have tx : ∀ {o : Expr} {m : Str} {es : List Expr} {sl : Bool}, cText f o m es sl = some ir → notLend ir = true := fun h => by
      unfold cText at h
      split at h
      · split at h <;> cases h; rfl
      · cases h
    split at h
    · split at h
      · rename_i ir' e1
        cases h
        unfold cMeth at e1
        split at e1
        · split at e1
          · split at e1
            · split at e1
              · exact lend_map e1 fun _ => rfl
              · split at e1
                · exact lend_map e1 fun _ => rfl
                · cases e1
            · split at e1
              · cases e1; rfl
              · split at e1 <;> cases e1; rfl
            · cases e1
          · cases e1
        · cases e1
      · exact tx h
    · exact tx h
    · cases h
  · unfold cComp at h
    split at h
    · split at h
      · split at h
        · split at h <;> cases h; rfl
        · cases h
      · cases h
    · cases h
  · cases h
theorem cE_lend {n : Nat} {T : CT} {e : Expr} {ir : Ir} (h : cE n T e = some ir) : notLend ir = true := by
  cases n with
  | zero => simp only [cE] at h; cases h
  | succ n => exact cE1_lend h
theorem cE_ok {C : Cfg} {k : Nat} : ∀ (n : Nat) {X : Cx} {T : CT}, CxOk X T C k → Good X C (cE n T)
  | 0, _, _, _ => fun e ir h => by simp only [cE] at h; cases h
  | n + 1, X, T, O => fun e ir h => cE1_ok O (cE_ok n O) (fun e ir h => cE_lend h) (fun X' T' O' => cE_ok n O') e ir h

def isComp : Expr → Bool
  | .ListComp _ _ _ _ => true
  | .SetComp _ _ _ _ => true
  | .DictComp _ _ _ _ _ => true
  | _ => false
def isTupE : Expr → Bool
  | .Tuple _ _ _ => true
  | _ => false
theorem noswap {e : Expr} (h : isComp e = false) (t : Option Expr) (l : Nat) (env : PySem.Env) : swapsWith e t l env = pure false := by
  cases e <;> first | rfl | cases h
theorem nosole {e : Expr} (h : isComp e = false) (t : Expr) (l : Nat) (env : PySem.Env) : swapsWithSole [t] e l env = pure false := noswap h (some t) l env
theorem nostores {e : Expr} (h : isTupE e = false) (ts : List Expr) (k : Nat) (tp : Pos) (env : PySem.Env) : swappedStores [.Tuple ts k tp] e env = pure none := by
  cases e <;> first | rfl | cases h
theorem sub_assign {o b : Expr} (h : tame b = true) (p : Pos) (env : PySem.Env) (v : Value) : assign (.Subscript o b p) env v = (do
      let ov ← holding [v] (eval o env)
      let iv ← holding [v, ov] (eval b env)
      standAt p
      holding [v, ov, iv] (setItem ov iv v)
      release [v, ov, iv] []) := by
  cases b <;> first | rfl | cases h
/-- how a name = [..] is stored -/
def setKind (T : CT) (x : Str) (p : Pos) : Expr → Option Bool
  | .ListComp _ _ sc cp => match T.kind.lookup x with
    | some .local => if (p.line == cp.line) = true ∧ (sc.names.any fun (n, k) => n == x && (k == .local || k == .cell)) = false then some true else none
    | some .cell => some false
    | _ => none
  | e => if isComp e = false then some false else none
def augOf : Operator → Option Bool
  | .Add => some true
  | .Sub => some false
  | _ => none
theorem augOf_ok {X : Cx} {op : Operator} {pl : Bool} (h : augOf op = some pl) : PIp X op (ipI fun i j => cond pl (i + j) (i - j)) := by
  cases op <;> cases h
  · exact ip_add
  · exact ip_sub
def cS1 (T : CT) (f : Expr → Option Ir) (ss : List Stmt → Option Ir) : Stmt → Option Ir
  | .Assign [.Name x p] e _ => match setKind T x p e, stName T x, f e with
    | some _, some i, some ir => some (.set i (T.own.contains i) ir)
    | _, _, _ => none
  | .Assign [.Tuple ts k tp] e _ => if isComp e = false ∧ isTupE e = false then match cTg T (.Tuple ts k tp), f e with
      | some t, some ir => some (.unp t ir)
      | _, _ => none
    else none
  | .Assign [.Subscript (.Name x _) b _] e _ => if isComp e = false then match rdName T x, f b, f e with
      | some i, some ib, some ir => some (.sti i ib ir)
      | _, _, _ => none
    else none
  | .AugAssign (.Name x _) op e _ => match augOf op, stName T x, f e with
    | some pl, some i, some ir => some (.aug i pl ir)
    | _, _, _ => none
  | .Expr e _ => if isComp e = false then (f e).map .ex else none
  | .If c a b _ => if isIf c = false then match f c, ss a, ss b with
      | some x, some y, some z => some (.ifs x y z)
      | _, _, _ => none
    else none
  | .While c b [] _ => if isIf c = false then match f c, ss b with
      | some x, some y => some (.whl x y)
      | _, _ => none
    else none
  | .For tg it b [] _ => if tame it = true then match cTg T tg, cIt T f it, ss b with
      | some t, some i, some y => some (.fors t i y)
      | _, _, _ => none
    else none
  | .Return none _ => some (.ret .non)
  | .Return (some (.Name x _)) _ => match rdName T x with
    | some i => some (.ret (.var i))
    | none => none
  | .Return (some e) _ => match f e with
    | some (.var _) => none
    | some ir => some (.ret ir)
    | none => none
  | .Break _ => some .brk
  | .Continue _ => some .cnt
  | .Pass _ => some .pas
  | _ => none
def cSl (s : Stmt → Option Ir) : List Stmt → Option Ir
  | [] => some .nil
  | a :: r => match s a, cSl s r with
    | some x, some y => some (.cons x y)
    | _, _ => none
def cS : Nat → CT → List Stmt → Option Ir
  | 0, _, _ => none
  | n + 1, T, l => cSl (cS1 T (cE 60 T) (cS n T)) l
section
variable {X : Cx} {T : CT} {C : Cfg} {k : Nat}
theorem swap_cell {elt : Expr} {gs : List Comprehension} {sc : Scope} {cp p : Pos} {x : Str} {l : Nat} {env : PySem.Env} (hk : env.scope.kind = .function) (h : env.scope.names.lookup x = some .cell) : swapsWith (.ListComp elt gs sc cp) (some (.Name x p)) l env = pure false := by
  have kx : env.kindOf x = some .cell := h
  have hb : env.blockKind = .function := by unfold Env.blockKind; rw [hk]; rfl
  unfold swapsWith
  simp only [hb, kx]
  rfl
theorem cSet_ok (O : CxOk X T C k) {n : Nat} {x : Str} {p pos : Pos} {e : Expr} {b : Bool} {i : Nat} {keep : Bool} {ir : Ir} (h1 : setKind T x p e = some b) (h2 : stName T x = some i) (h3 : cE (n + 1) T e = some ir) : PS X (.Assign [.Name x p] e pos) (tSt X.K C (.set i keep ir)) := by
  obtain ⟨s1, s2, s3⟩ := O.st h2
  have D := cE_ok (n + 1) O e ir h3
  unfold setKind at h1
  split at h1
  · rename_i elt gs sc cp
    split at h1
    · rename_i ek
      split at h1
      · rename_i hc
        obtain ⟨hl, ha⟩ := hc
        have h3' : cComp T (cE n T) (fun T' => cE n T') elt gs sc = some ir := h3
        obtain ⟨tg, iter, ifs, it, t, c, e', rfl, rfl, tm, hi, ok, hg, ht, he, hv⟩ := (cComp_ok O (cE_ok n O) (fun e ir h => cE_lend h) (fun X' T' O' => cE_ok n O') h3').ex
        obtain ⟨q', e1, e2⟩ := O.kinds x _ ek
        have e1 : X.env.scope.names.lookup x = some .local := by
          rcases e2 with rfl | ⟨z, _⟩
          · exact e1
          · cases z
        exact ps_mono (ps_setLc O.calm O.nd s1 e1 (sw_true O.sk e1 hl ha) hi ok hg ht he (fun y => tame_fold tm X.env y)) fun E σ H q => dx_comp O.calm O.nd tm hi ok hg ht he hv σ H _ (set_weak q)
      · cases h1
    · rename_i ek
      obtain ⟨q', e1, e2⟩ := O.kinds x _ ek
      have e1 : X.env.scope.names.lookup x = some .cell := by
        rcases e2 with rfl | ⟨z, _⟩
        · exact e1
        · cases z
      exact ds_set O.nd s1 s2 D.x (swap_cell O.sk e1) s3
    · cases h1
  · split at h1
    · rename_i hc
      exact ds_set O.nd s1 s2 D.x (noswap hc _ _ _) s3
    · cases h1
theorem cSl_ok {s : Stmt → Option Ir} (G : ∀ st ir, s st = some ir → PS X st (tSt X.K C ir)) : ∀ {l : List Stmt} {ir : Ir}, cSl s l = some ir → PSs X l (tSt X.K C ir)
  | [], ir, h => by simp only [cSl] at h; cases h; exact ds_nil
  | a :: r, ir, h => by
    simp only [cSl] at h
    split at h
    · rename_i x y e1 e2
      cases h
      exact ds_cons (G _ _ e1) (cSl_ok G e2)
    · cases h
theorem cS1_ok (O : CxOk X T C k) {n : Nat} {ss : List Stmt → Option Ir} (GS : ∀ l ir, ss l = some ir → PSs X l (tSt X.K C ir)) : ∀ st ir, cS1 T (cE (n + 1) T) ss st = some ir → PS X st (tSt X.K C ir) := by
  intro st ir h
  have G := cE_ok (n + 1) O
  unfold cS1 at h
  split at h
  · split at h
    · rename_i b i ie e1 e2 e3
      cases h
      exact cSet_ok O e1 e2 e3
    · cases h
  · split at h
    · rename_i hc
      split at h
      · rename_i t ie e1 e2
        cases h
        exact ds_unp (G _ _ e2).x (O.tg e1) (nosole hc.1 _ _ _) (nostores hc.2 _ _ _ _) rfl
      · cases h
    · cases h
  · split at h
    · rename_i hc
      split at h
      · rename_i i ib ie e1 e2 e3
        cases h
        exact ds_sti (O.rd e1) (G _ _ e2) (G _ _ e3).x (nosole hc _ _ _) rfl fun v => sub_assign (G _ _ e2).tm _ _ v
      · cases h
    · cases h
  · split at h
    · rename_i pl i ie e1 e2 e3
      cases h
      obtain ⟨s1, s2, s3⟩ := O.st e2
      exact ds_aug O.nd s1 s2 (G _ _ e3).x (augOf_ok e1) s3
    · cases h
  · split at h
    · rename_i hc
      obtain ⟨a, e2, e3⟩ := mapSome h
      subst e3
      exact ds_ex (G _ _ e2).x (noswap hc _ _ _)
    · cases h
  · split at h
    · rename_i hi
      split at h
      · rename_i x y z e1 e2 e3
        cases h
        exact ds_ifs ((G _ _ e1).t hi) (GS _ _ e2) (GS _ _ e3)
      · cases h
    · cases h
  · split at h
    · rename_i hi
      split at h
      · rename_i x y e1 e2
        cases h
        exact ds_whl O.pass ((G _ _ e1).t hi) (GS _ _ e2)
      · cases h
    · cases h
  · split at h
    · rename_i tm
      split at h
      · rename_i t i y e1 e2 e3
        cases h
        exact ds_fors O.pass O.calm tm (cIt_ok O G (fun e ir h => cE_lend h) e2) (O.tg e1) (GS _ _ e3)
      · cases h
    · cases h
  · cases h; exact ds_retN
  · split at h
    · rename_i i e1
      cases h
      exact ds_retV (O.rd e1)
    · cases h
  · split at h
    · cases h
    · rename_i ie nv e1
      cases h
      exact ds_ret (fun i e => nv i e) (G _ _ e1).x
    · cases h
  · cases h; exact ds_brk
  · cases h; exact ds_cnt
  · cases h; exact ds_pas
  · cases h
theorem cS_ok : ∀ (n : Nat) (O : CxOk X T C k), ∀ l ir, cS n T l = some ir → PSs X l (tSt X.K C ir)
  | 0, _, l, ir, h => by simp only [cS] at h; cases h
  | n + 1, O, l, ir, h => cSl_ok (cS1_ok O (cS_ok n O)) h
end
end Dv

set_option Elab.async false
set_option linter.all false
set_option maxRecDepth 100000
set_option maxHeartbeats 8000000
/-! a whole text of defs -/
namespace Dv
open PySem PySem.Spec PyProof.Rows L2
/-- a def of the text: its statement, its slots (parameters first), the slots that hold owned lists, which parameters are lent lists, its body -/
structure DefR where
  name : Str
  qual : Str
  st : Stmt
  N : List Str
  ps : List Str
  own : List Nat
  ms : List Bool
  ir : Ir
  dv : List PD
def fnsOf : Nat → List DefR → List (Str × Nat × List Bool)
  | _, [] => []
  | i, r :: rs => (r.name, i, r.ms) :: fnsOf (i + 1) rs
theorem fnsOf_mem : ∀ {rs : List DefR} {i : Nat} {x : Str} {f : Nat} {fl : List Bool}, (x, f, fl) ∈ fnsOf i rs → ∃ j r, f = i + j ∧ rs[j]? = some r ∧ x = r.name ∧ fl = r.ms
  | [], _, _, _, _, h => by simp [fnsOf] at h
  | r :: rs, i, x, f, fl, h => by
    rcases List.mem_cons.mp h with e | h
    · cases e; exact ⟨0, r, rfl, rfl, rfl, rfl⟩
    · obtain ⟨j, r', e1, e2, e3, e4⟩ := fnsOf_mem h
      exact ⟨j + 1, r', by omega, by simpa using e2, e3, e4⟩
/-- a def with defaults, called without them -/
def callD : List PD → Nat → (DEn → Option (Slo × DEn)) → DEn → Option (Slo × DEn)
  | [], _, φ, as => φ as
  | d :: ds, n, φ, as => if as.length = n then match φ (as ++ (d :: ds).map Slo.val) with
      | some (x, os) => some (x, os.take n)
      | none => none
    else none
section
variable {K : PySem.W.Frag} {α : Nat → Addr} {F H : Hp}
theorem own_pre {as : DEn} {dv : List PD} {vs dvs : List V} (l : as.length = vs.length) {i : Nat} {p : Option Nat} {ds : List PD} (e : (as ++ dv.map Slo.val)[i]? = some (Slo.own p ds)) : as[i]? = some (Slo.own p ds) ∧ ((vs ++ dvs).map some)[i]? = (vs.map some)[i]? := by
  by_cases h : i < as.length
  · rw [List.getElem?_append_left h] at e
    exact ⟨e, by rw [List.map_append, List.getElem?_append_left (by rw [List.length_map]; omega)]⟩
  · rw [List.getElem?_append_right (by omega), List.getElem?_map] at e
    cases z : dv[i - as.length]? with
    | none => rw [z] at e; cases e
    | some d => rw [z] at e; cases e
theorem er_dv {as : DEn} {dv : List PD} {vs dvs : List V} (E : ER K α F H as (vs.map some)) (q : RpAll K F dvs dv) : ER K α F H (as ++ dv.map Slo.val) ((vs ++ dvs).map some) := by
  have l : as.length = vs.length := by have := E.len; rwa [List.length_map] at this
  refine ⟨E.sub, by rw [List.length_append, List.length_map, List.length_map, List.length_append, rpAll_len q, l], fun i d e => ?_, fun i p ds e => ?_, fun i j p p' ds ds' n e e' => ?_⟩
  · by_cases h : i < as.length
    · rw [List.getElem?_append_left h] at e
      rw [List.map_append, List.getElem?_append_left (by rw [List.length_map]; omega)]
      exact E.val i d e
    · rw [List.getElem?_append_right (by omega), List.getElem?_map] at e
      cases z : dv[i - as.length]? with
      | none => rw [z] at e; cases e
      | some d' =>
        rw [z] at e
        cases e
        obtain ⟨v, e1, e2⟩ := rpAll_get q z
        refine ⟨v, ?_, e2⟩
        rw [List.map_append, List.getElem?_append_right (by rw [List.length_map]; omega), List.length_map, ← l, List.getElem?_map, e1]
        rfl
  · obtain ⟨e1, e2⟩ := own_pre (dvs := dvs) l e
    rw [e2]
    exact E.own i p ds e1
  · obtain ⟨e1, e2⟩ := own_pre (dvs := dvs) l e
    obtain ⟨e3, e4⟩ := own_pre (dvs := dvs) l e'
    rw [e2, e4]
    exact E.inj i j p p' ds ds' n e1 e3
theorem take_pre {os : DEn} {n i : Nat} {s : Slo} (e : (os.take n)[i]? = some s) : i < n ∧ os[i]? = some s := by
  by_cases h : i < n
  · rw [List.getElem?_take_of_lt h] at e; exact ⟨h, e⟩
  · rw [List.getElem?_eq_none (by rw [List.length_take]; omega)] at e; cases e
theorem sig_pre {vs dvs : List V} {i : Nat} (h : i < vs.length) : ((vs ++ dvs).map some)[i]? = (vs.map some)[i]? := by
  rw [List.map_append, List.getElem?_append_left (by rw [List.length_map]; exact h)]
theorem call_conv {n : Nat} {φ : DEn → Option (Slo × DEn)} {dv : List PD} {dvs : List V} (q : ∀ F, RpAll K F dvs dv) (vs : List V) (H : Hp) (Q : VK) (E : XK) (h : spF K n (callD dv n φ) vs H Q E) : spF K (n + dv.length) φ (vs ++ dvs) H Q E := by
  obtain ⟨α, F, as, r, os, hn, E1, ev, k⟩ := h
  cases dv with
  | nil =>
    have e : dvs = [] := by have := q F; cases this; rfl
    subst e
    rw [List.append_nil]
    exact ⟨α, F, as, r, os, hn, E1, ev, k⟩
  | cons d ds =>
    simp only [callD] at ev
    split at ev
    · rename_i hl
      split at ev
      · rename_i x os0 e0
        cases ev
        have l : as.length = vs.length := by have := E1.len; rwa [List.length_map] at this
        refine ⟨α, F, _, r, os0, by rw [List.length_append, hn, rpAll_len (q F)], er_dv E1 (q F), e0, fun v F' H' A => k v F' H' ?_⟩
        have lo : os0.length = vs.length + dvs.length := by have := A.er.len; rwa [List.length_map, List.length_append] at this
        have own : ∀ b, OwnA (os0.take n) (vs.map some) b → OwnA os0 ((vs ++ dvs).map some) b := fun b ⟨i, p, es, e1, e2⟩ => by
          obtain ⟨h1, h2⟩ := take_pre e1
          exact ⟨i, p, es, h2, by rw [sig_pre (by omega)]; exact e2⟩
        refine ⟨⟨A.er.sub, by rw [List.length_take, List.length_map, lo]; omega, fun i d e => ?_, fun i p es e => ?_, fun i j p p' es es' ne e e' => ?_⟩, A.rep, fun b z y => A.dist b z (own b y), A.st.mono (fun b ⟨i, p, es, e1, e2⟩ => ?_) fun b z => z.imp (own b) id⟩
        · obtain ⟨h1, h2⟩ := take_pre e
          rw [← sig_pre (dvs := dvs) (by omega)]
          exact A.er.val i d h2
        · obtain ⟨h1, h2⟩ := take_pre e
          rw [← sig_pre (dvs := dvs) (by omega)]
          exact A.er.own i p es h2
        · obtain ⟨h1, h2⟩ := take_pre e
          obtain ⟨h3, h4⟩ := take_pre e'
          rw [← sig_pre (dvs := dvs) (by omega), ← sig_pre (dvs := dvs) (i := j) (by omega)]
          exact A.er.inj i j p p' es es' ne h2 h4
        · obtain ⟨e3, e4⟩ := own_pre (dvs := dvs) l e1
          exact ⟨i, p, es, e3, by rw [← e4]; exact e2⟩
      · cases ev
    · cases ev
end
/-- what each def gives, to a depth -/
noncomputable def fnK (rs : List DefR) (gl : Nat → Option PD) : Nat → Nat → DEn → Option (Slo × DEn)
  | 0, _, _ => none
  | k + 1, f, as => match rs[f]? with
    | some r => callD r.dv r.ms.length (runF ⟨fnK rs gl k, gl⟩ (r.ms.length + r.dv.length) r.N.length r.ir) as
    | none => none
theorem fnK_len {rs : List DefR} {gl : Nat → Option PD} {k f : Nat} {r : DefR} (h : rs[f]? = some r) {as os : DEn} {x : Slo} (e : fnK rs gl k f as = some (x, os)) : as.length = r.ms.length := by
  cases k with
  | zero => simp only [fnK] at e; cases e
  | succ k =>
    simp only [fnK, h] at e
    cases hd : r.dv with
    | nil =>
      rw [hd] at e
      simp only [callD] at e
      unfold runF at e
      split at e
      · assumption
      · cases e
    | cons d ds =>
      rw [hd] at e
      simp only [callD] at e
      split at e
      · assumption
      · cases e
def ctOf (rs : List DefR) (gls : List (Str × Nat)) (blt : List Str) (r : DefR) : CT := ⟨r.N, (defScope r.st).names, r.own, fnsOf 0 rs, gls, blt⟩
structure DefOk (rs : List DefR) (gls : List (Str × Nat)) (blt : List Str) (r : DefR) : Prop where
  sc : FnScope r.N r.ps (defScope r.st)
  len : r.ps.length = r.ms.length + r.dv.length
  cm : cS 40 (ctOf rs gls blt r) (defBody r.st) = some r.ir
structure DefAt (K : PySem.W.Frag) (mg : Str → Option Value) (r : DefR) (fa : Addr) (fd : FuncData) : Prop where
  fn : Fun K r.name r.qual r.st fa fd
  at_ : mg r.name = some (.ref fa)
  kp : PySem.W.keepIn K (.ref fa) = true
  bd : ∃ (ds : List Value) (dvs : List V), Vals dvs ds ∧ (∀ F, RpAll K F dvs r.dv) ∧ Binds K fd r.ps ds
section
variable {P : Program} {w : World} {K : PySem.W.Frag} {mg : Str → Option Value} {base : Heap} {rs : List DefR} {gls : List (Str × Nat)} {blt : List Str} {gl : Nat → Option PD}
theorem defs_ok (hs : ∀ (f : Nat) (r : DefR), rs[f]? = some r → DefOk rs gls blt r ∧ ∃ fa fd, DefAt K mg r fa fd) (hb : ∀ x ∈ blt, mg x = none) (hg : ∀ x g, (x, g) ∈ gls → ∃ v u d, mg x = some u ∧ RelV v u ∧ gl g = some d ∧ ∀ F, Rp K F v d) :
    ∀ (k : Nat) (f : Nat) (r : DefR), rs[f]? = some r → ∀ fa fd, DefAt K mg r fa fd → ∃ sp0 : Sp, FnG P w K mg base k fa fd r.ps sp0 ∧ ∀ dvs : List V, (∀ F, RpAll K F dvs r.dv) → ∀ vs H Q E, spF K r.ms.length (fnK rs gl k f) vs H Q E → sp0 (vs ++ dvs) H Q E := by
  intro k
  induction k with
  | zero =>
    intro f r hr fa fd D
    refine ⟨fun _ _ _ _ => False, ⟨fun vs H Q E z => z.elim, fun _ _ _ _ _ _ _ _ _ _ _ _ _ _ z => z.elim⟩, fun dvs q vs H Q E ⟨_, _, _, _, _, _, _, z, _⟩ => ?_⟩
    simp only [fnK] at z
    cases z
  | succ k ih =>
    intro f r hr fa fd D
    obtain ⟨S, _⟩ := hs f r hr
    have e : fnK rs gl (k + 1) f = callD r.dv r.ms.length (runF ⟨fnK rs gl k, gl⟩ (r.ms.length + r.dv.length) r.N.length r.ir) := by
      funext as
      simp only [fnK, hr]
    refine ⟨spF K r.ps.length (runF ⟨fnK rs gl k, gl⟩ r.ps.length r.N.length r.ir), fn_body D.fn S.sc fun cdv A outer s H E hroom gd => cS_ok (k := k) 40 ?_ _ _ S.cm, fun dvs q vs H Q E z => ?_⟩
    · refine ⟨rfl, S.sc.nd, S.sc.kind, fun x q e => ⟨q, e, .inl rfl⟩, rfl, hroom, gd, PassesOwn.never, fun _ _ => rfl, fun x f' fl hm => ?_, hb, hg⟩
      obtain ⟨j, r', e1, e2, e3, e4⟩ := fnsOf_mem hm
      rw [Nat.zero_add] at e1
      subst e1 e3 e4
      obtain ⟨S', fa', fd', D'⟩ := hs f' r' e2
      obtain ⟨sp0, G1, G2⟩ := ih f' r' e2 fa' fd' D'
      obtain ⟨ds, dvs, v1, v2, v3⟩ := D'.bd
      exact ⟨⟨fa', fd', r'.ps, sp0, ds, dvs, G1, v1, G2 dvs v2, D'.at_, D'.kp, v3⟩, fun as x os z => fnK_len e2 z⟩
    · rw [e] at z
      have c := call_conv q vs H Q E z
      rw [← S.len] at c
      exact c
/-- a def without defaults -/
theorem FnG.weak {k : Nat} {fa : Addr} {fd : FuncData} {ps : List Str} {sp sp0 : Sp} (G : FnG P w K mg base k fa fd ps sp0) (c : ∀ vs H Q E, sp vs H Q E → sp0 vs H Q E) : FnG P w K mg base k fa fd ps sp :=
  ⟨fun vs H Q E z => G.len vs H Q E (c _ _ _ _ z), fun A fr s H as us vs Q E hr gd e0 bd r z => G.run A fr s H as us vs Q E hr gd e0 bd r (c _ _ _ _ z)⟩
theorem defs_ok0 (hs : ∀ (f : Nat) (r : DefR), rs[f]? = some r → DefOk rs gls blt r ∧ ∃ fa fd, DefAt K mg r fa fd) (hb : ∀ x ∈ blt, mg x = none) (hg : ∀ x g, (x, g) ∈ gls → ∃ v u d, mg x = some u ∧ RelV v u ∧ gl g = some d ∧ ∀ F, Rp K F v d)
    (k : Nat) (f : Nat) (r : DefR) (hr : rs[f]? = some r) (hd : r.dv = []) (fa : Addr) (fd : FuncData) (D : DefAt K mg r fa fd) : FnG P w K mg base k fa fd r.ps (spF K r.ms.length (fnK rs gl k f)) := by
  obtain ⟨sp0, G1, G2⟩ := defs_ok (P := P) (w := w) (base := base) hs hb hg k f r hr fa fd D
  refine G1.weak fun vs H Q E z => ?_
  have c := G2 [] (fun F => by rw [hd]; exact .nil) vs H Q E z
  rwa [List.append_nil] at c
end
/-- the law wins where its value is True -/
theorem wins_of {K : PySem.W.Frag} {φ : DEn → Option (Slo × DEn)} (h : ∀ ns : List Int, ns.length ≤ 63 → ∃ os, φ [.val (.list (ns.map PyData.int))] = some (.val (.bool true), os)) : Wins K (spF K 1 φ) := by
  intro H a ns hl hL
  obtain ⟨os, e⟩ := h ns hl
  refine ⟨fun _ => 0, H, [.val (.list (ns.map PyData.int))], _, os, rfl, ⟨Same.refl _, rfl, fun i d z => ?_, fun i p ds z => ?_, fun i j p q ds es n z => ?_⟩, e, fun v F' H' A => bool_rep A.rep⟩
  · match i, z with
    | 0, z =>
      have z : PyData.list (ns.map PyData.int) = d := by simpa using z
      subst z
      exact ⟨.ref a, rfl, .lst hL (rpAll_ints ns)⟩
    | i + 1, z => simp at z
  · match i, z with
    | 0, z => simp at z
    | i + 1, z => simp at z
  · match i, z with
    | 0, z => simp at z
    | i + 1, z => simp at z
end Dv

set_option Elab.async false
set_option linter.all false
set_option maxRecDepth 100000
set_option maxHeartbeats 4000000
/-! the small language, a step at a time -/
namespace Dv
open PySem PySem.Spec PyProof.Rows L2
noncomputable def oX (C : Cfg) (m : Bool) (e : Ir) (ρ : DEn) : Option (Opd × DEn) := opdOf m e (evX C e) ρ
noncomputable def lpS (C : Cfg) (t b : Ir) (ds : List PD) (ρ : DEn) : Option Out := forL t (evS C b) ds ρ
noncomputable def whS (C : Cfg) (c b : Ir) (n : Nat) (ρ : DEn) : Option Out := whileL (evX C c) (evS C b) n ρ
noncomputable def cmS (C : Cfg) (t c e : Ir) (ρ : DEn) (ds acc : List PD) : Option (List PD) := compL t (evX C c) (evX C e) ρ ds acc
section
variable (C : Cfg) (ρ : DEn)

theorem oXt_non  : oX C true .non ρ = (match evX C .non ρ with | some (r, ρ1) => some (.res r, ρ1) | none => none) := id rfl
theorem oXf_non  : oX C false .non ρ = (match evX C .non ρ with | some (r, ρ1) => (match frz r with | some d => some (.res (.val d), ρ1) | none => none) | none => none) := id rfl
theorem oXt_bl (b : Bool) : oX C true (.bl b) ρ = (match evX C (.bl b) ρ with | some (r, ρ1) => some (.res r, ρ1) | none => none) := id rfl
theorem oXf_bl (b : Bool) : oX C false (.bl b) ρ = (match evX C (.bl b) ρ with | some (r, ρ1) => (match frz r with | some d => some (.res (.val d), ρ1) | none => none) | none => none) := id rfl
theorem oXt_int (i : Int) : oX C true (.int i) ρ = (match evX C (.int i) ρ with | some (r, ρ1) => some (.res r, ρ1) | none => none) := id rfl
theorem oXf_int (i : Int) : oX C false (.int i) ρ = (match evX C (.int i) ρ with | some (r, ρ1) => (match frz r with | some d => some (.res (.val d), ρ1) | none => none) | none => none) := id rfl
theorem oXt_str (s : Str) : oX C true (.str s) ρ = (match evX C (.str s) ρ with | some (r, ρ1) => some (.res r, ρ1) | none => none) := id rfl
theorem oXf_str (s : Str) : oX C false (.str s) ρ = (match evX C (.str s) ρ with | some (r, ρ1) => (match frz r with | some d => some (.res (.val d), ρ1) | none => none) | none => none) := id rfl
theorem oXt_glb (g : Nat) : oX C true (.glb g) ρ = (match evX C (.glb g) ρ with | some (r, ρ1) => some (.res r, ρ1) | none => none) := id rfl
theorem oXf_glb (g : Nat) : oX C false (.glb g) ρ = (match evX C (.glb g) ρ with | some (r, ρ1) => (match frz r with | some d => some (.res (.val d), ρ1) | none => none) | none => none) := id rfl
theorem oXt_bin (o : Bop) (a b : Ir) : oX C true (.bin o a b) ρ = (match evX C (.bin o a b) ρ with | some (r, ρ1) => some (.res r, ρ1) | none => none) := id rfl
theorem oXf_bin (o : Bop) (a b : Ir) : oX C false (.bin o a b) ρ = (match evX C (.bin o a b) ρ with | some (r, ρ1) => (match frz r with | some d => some (.res (.val d), ρ1) | none => none) | none => none) := id rfl
theorem oXt_neg (a : Ir) : oX C true (.neg a) ρ = (match evX C (.neg a) ρ with | some (r, ρ1) => some (.res r, ρ1) | none => none) := id rfl
theorem oXf_neg (a : Ir) : oX C false (.neg a) ρ = (match evX C (.neg a) ρ with | some (r, ρ1) => (match frz r with | some d => some (.res (.val d), ρ1) | none => none) | none => none) := id rfl
theorem oXt_not (a : Ir) : oX C true (.not a) ρ = (match evX C (.not a) ρ with | some (r, ρ1) => some (.res r, ρ1) | none => none) := id rfl
theorem oXf_not (a : Ir) : oX C false (.not a) ρ = (match evX C (.not a) ρ with | some (r, ρ1) => (match frz r with | some d => some (.res (.val d), ρ1) | none => none) | none => none) := id rfl
theorem oXt_cmp (o : Cop) (a b : Ir) : oX C true (.cmp o a b) ρ = (match evX C (.cmp o a b) ρ with | some (r, ρ1) => some (.res r, ρ1) | none => none) := id rfl
theorem oXf_cmp (o : Cop) (a b : Ir) : oX C false (.cmp o a b) ρ = (match evX C (.cmp o a b) ρ with | some (r, ρ1) => (match frz r with | some d => some (.res (.val d), ρ1) | none => none) | none => none) := id rfl
theorem oXt_chain (o p : Cop) (a b c : Ir) : oX C true (.chain o p a b c) ρ = (match evX C (.chain o p a b c) ρ with | some (r, ρ1) => some (.res r, ρ1) | none => none) := id rfl
theorem oXf_chain (o p : Cop) (a b c : Ir) : oX C false (.chain o p a b c) ρ = (match evX C (.chain o p a b c) ρ with | some (r, ρ1) => (match frz r with | some d => some (.res (.val d), ρ1) | none => none) | none => none) := id rfl
theorem oXt_and (a b : Ir) : oX C true (.and a b) ρ = (match evX C (.and a b) ρ with | some (r, ρ1) => some (.res r, ρ1) | none => none) := id rfl
theorem oXf_and (a b : Ir) : oX C false (.and a b) ρ = (match evX C (.and a b) ρ with | some (r, ρ1) => (match frz r with | some d => some (.res (.val d), ρ1) | none => none) | none => none) := id rfl
theorem oXt_or (a b : Ir) : oX C true (.or a b) ρ = (match evX C (.or a b) ρ with | some (r, ρ1) => some (.res r, ρ1) | none => none) := id rfl
theorem oXf_or (a b : Ir) : oX C false (.or a b) ρ = (match evX C (.or a b) ρ with | some (r, ρ1) => (match frz r with | some d => some (.res (.val d), ρ1) | none => none) | none => none) := id rfl
theorem oXt_ife (c a b : Ir) : oX C true (.ife c a b) ρ = (match evX C (.ife c a b) ρ with | some (r, ρ1) => some (.res r, ρ1) | none => none) := id rfl
theorem oXf_ife (c a b : Ir) : oX C false (.ife c a b) ρ = (match evX C (.ife c a b) ρ with | some (r, ρ1) => (match frz r with | some d => some (.res (.val d), ρ1) | none => none) | none => none) := id rfl
theorem oXt_sub (a b : Ir) : oX C true (.sub a b) ρ = (match evX C (.sub a b) ρ with | some (r, ρ1) => some (.res r, ρ1) | none => none) := id rfl
theorem oXf_sub (a b : Ir) : oX C false (.sub a b) ρ = (match evX C (.sub a b) ρ with | some (r, ρ1) => (match frz r with | some d => some (.res (.val d), ρ1) | none => none) | none => none) := id rfl
theorem oXt_slc (a lo hi : Ir) : oX C true (.slc a lo hi) ρ = (match evX C (.slc a lo hi) ρ with | some (r, ρ1) => some (.res r, ρ1) | none => none) := id rfl
theorem oXf_slc (a lo hi : Ir) : oX C false (.slc a lo hi) ρ = (match evX C (.slc a lo hi) ρ with | some (r, ρ1) => (match frz r with | some d => some (.res (.val d), ρ1) | none => none) | none => none) := id rfl
theorem oXt_rev (a : Ir) : oX C true (.rev a) ρ = (match evX C (.rev a) ρ with | some (r, ρ1) => some (.res r, ρ1) | none => none) := id rfl
theorem oXf_rev (a : Ir) : oX C false (.rev a) ρ = (match evX C (.rev a) ρ with | some (r, ρ1) => (match frz r with | some d => some (.res (.val d), ρ1) | none => none) | none => none) := id rfl
theorem oXt_tup (es : Ir) : oX C true (.tup es) ρ = (match evX C (.tup es) ρ with | some (r, ρ1) => some (.res r, ρ1) | none => none) := id rfl
theorem oXf_tup (es : Ir) : oX C false (.tup es) ρ = (match evX C (.tup es) ρ with | some (r, ρ1) => (match frz r with | some d => some (.res (.val d), ρ1) | none => none) | none => none) := id rfl
theorem oXt_lst (es : Ir) : oX C true (.lst es) ρ = (match evX C (.lst es) ρ with | some (r, ρ1) => some (.res r, ρ1) | none => none) := id rfl
theorem oXf_lst (es : Ir) : oX C false (.lst es) ρ = (match evX C (.lst es) ρ with | some (r, ρ1) => (match frz r with | some d => some (.res (.val d), ρ1) | none => none) | none => none) := id rfl
theorem oXt_call (f : Nat) (es : Ir) : oX C true (.call f es) ρ = (match evX C (.call f es) ρ with | some (r, ρ1) => some (.res r, ρ1) | none => none) := id rfl
theorem oXf_call (f : Nat) (es : Ir) : oX C false (.call f es) ρ = (match evX C (.call f es) ρ with | some (r, ρ1) => (match frz r with | some d => some (.res (.val d), ρ1) | none => none) | none => none) := id rfl
theorem oXt_prim (p : Pr) (es : Ir) : oX C true (.prim p es) ρ = (match evX C (.prim p es) ρ with | some (r, ρ1) => some (.res r, ρ1) | none => none) := id rfl
theorem oXf_prim (p : Pr) (es : Ir) : oX C false (.prim p es) ρ = (match evX C (.prim p es) ρ with | some (r, ρ1) => (match frz r with | some d => some (.res (.val d), ρ1) | none => none) | none => none) := id rfl
theorem oXt_isi (ts : List Ty) (a : Ir) : oX C true (.isi ts a) ρ = (match evX C (.isi ts a) ρ with | some (r, ρ1) => some (.res r, ρ1) | none => none) := id rfl
theorem oXf_isi (ts : List Ty) (a : Ir) : oX C false (.isi ts a) ρ = (match evX C (.isi ts a) ρ with | some (r, ρ1) => (match frz r with | some d => some (.res (.val d), ρ1) | none => none) | none => none) := id rfl
theorem oXt_comp (t it c e : Ir) (vs : List Nat) : oX C true (.comp t it c e vs) ρ = (match evX C (.comp t it c e vs) ρ with | some (r, ρ1) => some (.res r, ρ1) | none => none) := id rfl
theorem oXf_comp (t it c e : Ir) (vs : List Nat) : oX C false (.comp t it c e vs) ρ = (match evX C (.comp t it c e vs) ρ with | some (r, ρ1) => (match frz r with | some d => some (.res (.val d), ρ1) | none => none) | none => none) := id rfl
theorem oXt_app (i : Nat) (e : Ir) : oX C true (.app i e) ρ = (match evX C (.app i e) ρ with | some (r, ρ1) => some (.res r, ρ1) | none => none) := id rfl
theorem oXf_app (i : Nat) (e : Ir) : oX C false (.app i e) ρ = (match evX C (.app i e) ρ with | some (r, ρ1) => (match frz r with | some d => some (.res (.val d), ρ1) | none => none) | none => none) := id rfl
theorem oXt_ext (i : Nat) (e : Ir) : oX C true (.ext i e) ρ = (match evX C (.ext i e) ρ with | some (r, ρ1) => some (.res r, ρ1) | none => none) := id rfl
theorem oXf_ext (i : Nat) (e : Ir) : oX C false (.ext i e) ρ = (match evX C (.ext i e) ρ with | some (r, ρ1) => (match frz r with | some d => some (.res (.val d), ρ1) | none => none) | none => none) := id rfl
theorem oXt_pop (i : Nat) : oX C true (.pop i) ρ = (match evX C (.pop i) ρ with | some (r, ρ1) => some (.res r, ρ1) | none => none) := id rfl
theorem oXf_pop (i : Nat) : oX C false (.pop i) ρ = (match evX C (.pop i) ρ with | some (r, ρ1) => (match frz r with | some d => some (.res (.val d), ρ1) | none => none) | none => none) := id rfl
theorem oXt_clr (i : Nat) : oX C true (.clr i) ρ = (match evX C (.clr i) ρ with | some (r, ρ1) => some (.res r, ρ1) | none => none) := id rfl
theorem oXf_clr (i : Nat) : oX C false (.clr i) ρ = (match evX C (.clr i) ρ with | some (r, ρ1) => (match frz r with | some d => some (.res (.val d), ρ1) | none => none) | none => none) := id rfl
theorem oXt_meth (m : Mt) (a es : Ir) : oX C true (.meth m a es) ρ = (match evX C (.meth m a es) ρ with | some (r, ρ1) => some (.res r, ρ1) | none => none) := id rfl
theorem oXf_meth (m : Mt) (a es : Ir) : oX C false (.meth m a es) ρ = (match evX C (.meth m a es) ρ with | some (r, ρ1) => (match frz r with | some d => some (.res (.val d), ρ1) | none => none) | none => none) := id rfl
theorem oXf_var (i : Nat) : oX C false (.var i) ρ = (match evX C (.var i) ρ with | some (r, ρ1) => (match frz r with | some d => some (.res (.val d), ρ1) | none => none) | none => none) := id rfl
theorem oXt_var (i : Nat) : oX C true (.var i) ρ = (match ρ[i]? with | some .un => none | none => none | _ => some (.slot i, ρ)) := id rfl
theorem oX_lend (m : Bool) (i : Nat) : oX C m (.lend i) ρ = (match ρ[i]? with | some (.own _ _) => some (.slot i, ρ) | _ => none) := by cases m <;> exact id rfl
theorem eX_var (i : Nat) : evX C (.var i) ρ = (match ρ[i]? with | some (.val d) => some (.val d, ρ) | some (.own _ ds) => some (.val (.list ds), ρ.set i (.val (.list ds))) | _ => none) := id rfl
theorem eX_non  : evX C .non ρ = (some (.val .none, ρ)) := id rfl
theorem eX_bl (b : Bool) : evX C (.bl b) ρ = (some (.val (.bool b), ρ)) := id rfl
theorem eX_int (i : Int) : evX C (.int i) ρ = (some (.val (.int i), ρ)) := id rfl
theorem eX_str (s : Str) : evX C (.str s) ρ = (some (.val (.str s), ρ)) := id rfl
theorem eX_glb (g : Nat) : evX C (.glb g) ρ = (match C.gl g with | some d => some (.val d, ρ) | none => none) := id rfl
theorem eX_bin (o : Bop) (a b : Ir) : evX C (.bin o a b) ρ = (match oX C true a ρ with | none => none | some (x, ρ1) => match oX C true b ρ1 with | none => none | some (y, ρ2) => match rdO ρ2 x, rdO ρ2 y with | some d, some e => (match bopD o d e with | some r => some (r, ρ2) | none => none) | _, _ => none) := id rfl
theorem eX_neg (a : Ir) : evX C (.neg a) ρ = (match evX C a ρ with | some (.val (.int i), ρ1) => some (.val (.int (-i)), ρ1) | _ => none) := id rfl
theorem eX_not (a : Ir) : evX C (.not a) ρ = (match evX C a ρ with | some (.val (.bool b), ρ1) => some (.val (.bool (!b)), ρ1) | _ => none) := id rfl
theorem eX_cmp (o : Cop) (a b : Ir) : evX C (.cmp o a b) ρ = (match oX C true a ρ with | none => none | some (x, ρ1) => match oX C true b ρ1 with | none => none | some (y, ρ2) => match rdO ρ2 x, rdO ρ2 y with | some d, some e => (match copD o d e with | some r => some (.val (.bool r), ρ2) | none => none) | _, _ => none) := id rfl
theorem eX_chain (o p : Cop) (a b c : Ir) : evX C (.chain o p a b c) ρ = (match oX C true a ρ with | none => none | some (x, ρ1) => match oX C true b ρ1 with | none => none | some (y, ρ2) => match rdO ρ2 x, rdO ρ2 y with | some d, some e => (match copD o d e with | some false => some (.val (.bool false), ρ2) | some true => (match oX C true c ρ2 with | none => none | some (z, ρ3) => match rdO ρ3 y, rdO ρ3 z with | some e', some f => (match copD p e' f with | some r => some (.val (.bool r), ρ3) | none => none) | _, _ => none) | none => none) | _, _ => none) := id rfl
theorem eX_and (a b : Ir) : evX C (.and a b) ρ = (match evX C a ρ with | some (.val (.bool true), ρ1) => evX C b ρ1 | some (.val (.bool false), ρ1) => some (.val (.bool false), ρ1) | _ => none) := id rfl
theorem eX_or (a b : Ir) : evX C (.or a b) ρ = (match evX C a ρ with | some (.val (.bool false), ρ1) => evX C b ρ1 | some (.val (.bool true), ρ1) => some (.val (.bool true), ρ1) | _ => none) := id rfl
theorem eX_ife (c a b : Ir) : evX C (.ife c a b) ρ = (match evX C c ρ with | some (.val (.bool true), ρ1) => evX C a ρ1 | some (.val (.bool false), ρ1) => evX C b ρ1 | _ => none) := id rfl
theorem eX_sub (a b : Ir) : evX C (.sub a b) ρ = (match oX C true a ρ with | none => none | some (x, ρ1) => match oX C true b ρ1 with | none => none | some (y, ρ2) => match rdO ρ2 x, rdO ρ2 y with | some d, some e => (match subD d e with | some r => some (.val r, ρ2) | none => none) | _, _ => none) := id rfl
theorem eX_slc (a lo hi : Ir) : evX C (.slc a lo hi) ρ = (match oX C true a ρ with | none => none | some (x, ρ1) => match evP C lo ρ1 with | none => none | some (l, ρ2) => match evP C hi ρ2 with | none => none | some (h, ρ3) => match rdO ρ3 x with | some d => (match slD d l h with | some r => some (r, ρ3) | none => none) | none => none) := id rfl
theorem eX_rev (a : Ir) : evX C (.rev a) ρ = (match oX C true a ρ with | none => none | some (x, ρ1) => match rdO ρ1 x with | some (.list ds) => some (.own none ds.reverse, ρ1) | _ => none) := id rfl
theorem eX_tup (es : Ir) : evX C (.tup es) ρ = (match evL C false es ρ with | none => none | some (xs, ρ1) => match valsOf xs with | some ds => if ds.length ≤ sizeLine then some (.val (.tuple ds), ρ1) else none | none => none) := id rfl
theorem eX_lst (es : Ir) : evX C (.lst es) ρ = (match evL C false es ρ with | none => none | some (xs, ρ1) => match valsOf xs with | some ds => if ds.length ≤ sizeLine then some (.own none ds, ρ1) else none | none => none) := id rfl
theorem eX_call (f : Nat) (es : Ir) : evX C (.call f es) ρ = (match evL C false es ρ with | none => none | some (xs, ρ1) => if (slotsOf xs).Nodup then match argsOf ρ1 xs with | none => none | some as => (match C.fn f as with | none => none | some (r, os) => (match putBack ρ1 xs os with | some ρ2 => some (r, ρ2) | none => none)) else none) := id rfl
theorem eX_prim (p : Pr) (es : Ir) : evX C (.prim p es) ρ = (match evL C true es ρ with | none => none | some (xs, ρ1) => match rdAll ρ1 xs with | none => none | some ds => (match prD p ds with | some r => some (r, ρ1) | none => none)) := id rfl
theorem eX_isi (ts : List Ty) (a : Ir) : evX C (.isi ts a) ρ = (match oX C true a ρ with | none => none | some (x, ρ1) => match rdO ρ1 x with | none => none | some d => (match isiD ts d with | some b => some (.val (.bool b), ρ1) | none => none)) := id rfl
theorem eX_comp (t it c e : Ir) (vs : List Nat) : evX C (.comp t it c e vs) ρ = (match evI C true it ρ with | none => none | some (ds, ρ1) => match cmS C t c e (blkD ρ1 vs) ds [] with | some acc => some (.own none acc, ρ1) | none => none) := id rfl
theorem eX_app (i : Nat) (e : Ir) : evX C (.app i e) ρ = (match ρ[i]? with | some (.own _ _) => (match oX C false e ρ with | some (.res (.val d), ρ1) => (match ρ1[i]? with | some (.own p ds) => if ds.length < sizeLine then some (.val .none, ρ1.set i (.own p (ds ++ [d]))) else none | _ => none) | _ => none) | _ => none) := id rfl
theorem eX_ext (i : Nat) (e : Ir) : evX C (.ext i e) ρ = (match ρ[i]? with | some (.own _ _) => (match oX C false e ρ with | some (.res (.val d), ρ1) => (match ρ1[i]? with | some (.own p ds) => (match seqD d with | some es => if ds.length + es.length ≤ sizeLine then some (.val .none, ρ1.set i (.own p (ds ++ es))) else none | none => none) | _ => none) | _ => none) | _ => none) := id rfl
theorem eX_clr (i : Nat) : evX C (.clr i) ρ = (match ρ[i]? with | some (.own p _) => some (.val .none, ρ.set i (.own p [])) | _ => none) := id rfl
theorem eX_meth (m : Mt) (a es : Ir) : evX C (.meth m a es) ρ = (match oX C true a ρ with | none => none | some (x, ρ1) => match rdO ρ1 x with | some (.str z) => (match evL C true es ρ1 with | none => none | some (xs, ρ2) => match rdAll ρ2 xs with | none => none | some ds => (match mtD m z ds with | some r => some (r, ρ2) | none => none)) | _ => none) := id rfl
theorem eX_pop (i : Nat) : evX C (.pop i) ρ = (match ρ[i]? with | some (.own p ds) => (match ds[ds.length - 1]? with | some d => some (.val d, ρ.set i (.own p ds.dropLast)) | none => none) | _ => none) := id rfl
theorem eP_nil  : evP C .nil ρ = some (none, ρ) := id rfl
theorem eP_cons (a b : Ir) : evP C (.cons a b) ρ = (match evX C a ρ with | some (.val (.int i), ρ1) => some (some i, ρ1) | _ => none) := id rfl
theorem eL_nil (m : Bool) : evL C m .nil ρ = some ([], ρ) := id rfl
theorem eL_cons (m : Bool) (a r : Ir) : evL C m (.cons a r) ρ = (match oX C m a ρ with | none => none | some (x, ρ1) => match evL C m r ρ1 with | none => none | some (xs, ρ2) => some (x :: xs, ρ2)) := id rfl
theorem eI_rng1 (m : Bool) (a : Ir) : evI C m (.rng1 a) ρ = (match evX C a ρ with | some (.val (.int j), ρ1) => (match rngD 0 j with | some ds => some (ds, ρ1) | none => none) | _ => none) := id rfl
theorem eI_rng2 (m : Bool) (a b : Ir) : evI C m (.rng2 a b) ρ = (match evX C a ρ with | some (.val (.int i), ρ1) => (match evX C b ρ1 with | some (.val (.int j), ρ2) => (match rngD i j with | some ds => some (ds, ρ2) | none => none) | _ => none) | _ => none) := id rfl
theorem eI_cons (m : Bool) (a b : Ir) : evI C m (.cons a b) ρ = (match oX C m a ρ with | none => none | some (x, ρ1) => match rdO ρ1 x with | none => none | some d => match itD d with | some ds => some (ds, ρ1) | none => none) := id rfl
theorem eS_nil  : evS C .nil ρ = (some (.nx ρ)) := id rfl
theorem eS_cons (a b : Ir) : evS C (.cons a b) ρ = (match evS C a ρ with | some (.nx ρ1) => evS C b ρ1 | o => o) := id rfl
theorem eS_set (i : Nat) (keep : Bool) (e : Ir) : evS C (.set i keep e) ρ = (match evX C e ρ with | none => none | some (r, ρ1) => if i < ρ1.length then (match keep with | true => (match r with | .own _ ds => some (.nx (ρ1.set i (.own none ds))) | _ => none) | false => (match frz r with | some d => some (.nx (ρ1.set i (.val d))) | none => none)) else none) := id rfl
theorem eS_aug (i : Nat) (pl : Bool) (e : Ir) : evS C (.aug i pl e) ρ = (match ρ[i]? with | some (.val (.int a)) => (match evX C e ρ with | some (.val (.int b), ρ1) => if i < ρ1.length then some (.nx (ρ1.set i (.val (.int (cond pl (a + b) (a - b)))))) else none | _ => none) | _ => none) := id rfl
theorem eS_unp (t e : Ir) : evS C (.unp t e) ρ = (match evX C e ρ with | none => none | some (r, ρ1) => match frz r with | none => none | some d => match asg t d ρ1 with | some ρ2 => some (.nx ρ2) | none => none) := id rfl
theorem eS_sti (i : Nat) (ix e : Ir) : evS C (.sti i ix e) ρ = (match evX C e ρ with | none => none | some (r, ρ1) => match frz r with | none => none | some d => match ρ1[i]? with | some (.own _ _) => (match evX C ix ρ1 with | some (.val (.int k), ρ2) => (match ρ2[i]? with | some (.own p ds) => (match ixN ds.length k with | some j => some (.nx (ρ2.set i (.own p (ds.set j d)))) | none => none) | _ => none) | _ => none) | _ => none) := id rfl
theorem eS_ex (e : Ir) : evS C (.ex e) ρ = (match evX C e ρ with | some (_, ρ1) => some (.nx ρ1) | none => none) := id rfl
theorem eS_ifs (c a b : Ir) : evS C (.ifs c a b) ρ = (match evX C c ρ with | some (.val (.bool true), ρ1) => evS C a ρ1 | some (.val (.bool false), ρ1) => evS C b ρ1 | _ => none) := id rfl
theorem eS_whl (c b : Ir) : evS C (.whl c b) ρ = (whS C c b wfuel ρ) := id rfl
theorem eS_fors (t it b : Ir) : evS C (.fors t it b) ρ = (match evI C false it ρ with | none => none | some (ds, ρ1) => lpS C t b ds ρ1) := id rfl
theorem eS_brk  : evS C .brk ρ = (some (.bk ρ)) := id rfl
theorem eS_cnt  : evS C .cnt ρ = (some (.ct ρ)) := id rfl
theorem eS_pas  : evS C .pas ρ = (some (.nx ρ)) := id rfl
theorem eS_retv (i : Nat) : evS C (.ret (.var i)) ρ = (match ρ[i]? with | some (.own none ds) => some (.rt (.own none ds) (ρ.set i .un)) | some (.val d) => some (.rt (.val d) ρ) | _ => none) := id rfl
theorem eS_ret_non  : evS C (.ret .non) ρ = (match evX C .non ρ with | some (r, ρ1) => some (.rt r ρ1) | none => none) := id rfl
theorem eS_ret_bl (b : Bool) : evS C (.ret (.bl b)) ρ = (match evX C (.bl b) ρ with | some (r, ρ1) => some (.rt r ρ1) | none => none) := id rfl
theorem eS_ret_int (i : Int) : evS C (.ret (.int i)) ρ = (match evX C (.int i) ρ with | some (r, ρ1) => some (.rt r ρ1) | none => none) := id rfl
theorem eS_ret_str (s : Str) : evS C (.ret (.str s)) ρ = (match evX C (.str s) ρ with | some (r, ρ1) => some (.rt r ρ1) | none => none) := id rfl
theorem eS_ret_glb (g : Nat) : evS C (.ret (.glb g)) ρ = (match evX C (.glb g) ρ with | some (r, ρ1) => some (.rt r ρ1) | none => none) := id rfl
theorem eS_ret_bin (o : Bop) (a b : Ir) : evS C (.ret (.bin o a b)) ρ = (match evX C (.bin o a b) ρ with | some (r, ρ1) => some (.rt r ρ1) | none => none) := id rfl
theorem eS_ret_neg (a : Ir) : evS C (.ret (.neg a)) ρ = (match evX C (.neg a) ρ with | some (r, ρ1) => some (.rt r ρ1) | none => none) := id rfl
theorem eS_ret_not (a : Ir) : evS C (.ret (.not a)) ρ = (match evX C (.not a) ρ with | some (r, ρ1) => some (.rt r ρ1) | none => none) := id rfl
theorem eS_ret_cmp (o : Cop) (a b : Ir) : evS C (.ret (.cmp o a b)) ρ = (match evX C (.cmp o a b) ρ with | some (r, ρ1) => some (.rt r ρ1) | none => none) := id rfl
theorem eS_ret_chain (o p : Cop) (a b c : Ir) : evS C (.ret (.chain o p a b c)) ρ = (match evX C (.chain o p a b c) ρ with | some (r, ρ1) => some (.rt r ρ1) | none => none) := id rfl
theorem eS_ret_and (a b : Ir) : evS C (.ret (.and a b)) ρ = (match evX C (.and a b) ρ with | some (r, ρ1) => some (.rt r ρ1) | none => none) := id rfl
theorem eS_ret_or (a b : Ir) : evS C (.ret (.or a b)) ρ = (match evX C (.or a b) ρ with | some (r, ρ1) => some (.rt r ρ1) | none => none) := id rfl
theorem eS_ret_ife (c a b : Ir) : evS C (.ret (.ife c a b)) ρ = (match evX C (.ife c a b) ρ with | some (r, ρ1) => some (.rt r ρ1) | none => none) := id rfl
theorem eS_ret_sub (a b : Ir) : evS C (.ret (.sub a b)) ρ = (match evX C (.sub a b) ρ with | some (r, ρ1) => some (.rt r ρ1) | none => none) := id rfl
theorem eS_ret_slc (a lo hi : Ir) : evS C (.ret (.slc a lo hi)) ρ = (match evX C (.slc a lo hi) ρ with | some (r, ρ1) => some (.rt r ρ1) | none => none) := id rfl
theorem eS_ret_rev (a : Ir) : evS C (.ret (.rev a)) ρ = (match evX C (.rev a) ρ with | some (r, ρ1) => some (.rt r ρ1) | none => none) := id rfl
theorem eS_ret_tup (es : Ir) : evS C (.ret (.tup es)) ρ = (match evX C (.tup es) ρ with | some (r, ρ1) => some (.rt r ρ1) | none => none) := id rfl
theorem eS_ret_lst (es : Ir) : evS C (.ret (.lst es)) ρ = (match evX C (.lst es) ρ with | some (r, ρ1) => some (.rt r ρ1) | none => none) := id rfl
theorem eS_ret_call (f : Nat) (es : Ir) : evS C (.ret (.call f es)) ρ = (match evX C (.call f es) ρ with | some (r, ρ1) => some (.rt r ρ1) | none => none) := id rfl
theorem eS_ret_prim (p : Pr) (es : Ir) : evS C (.ret (.prim p es)) ρ = (match evX C (.prim p es) ρ with | some (r, ρ1) => some (.rt r ρ1) | none => none) := id rfl
theorem eS_ret_isi (ts : List Ty) (a : Ir) : evS C (.ret (.isi ts a)) ρ = (match evX C (.isi ts a) ρ with | some (r, ρ1) => some (.rt r ρ1) | none => none) := id rfl
theorem eS_ret_comp (t it c e : Ir) (vs : List Nat) : evS C (.ret (.comp t it c e vs)) ρ = (match evX C (.comp t it c e vs) ρ with | some (r, ρ1) => some (.rt r ρ1) | none => none) := id rfl
theorem eS_ret_app (i : Nat) (e : Ir) : evS C (.ret (.app i e)) ρ = (match evX C (.app i e) ρ with | some (r, ρ1) => some (.rt r ρ1) | none => none) := id rfl
theorem eS_ret_ext (i : Nat) (e : Ir) : evS C (.ret (.ext i e)) ρ = (match evX C (.ext i e) ρ with | some (r, ρ1) => some (.rt r ρ1) | none => none) := id rfl
theorem eS_ret_pop (i : Nat) : evS C (.ret (.pop i)) ρ = (match evX C (.pop i) ρ with | some (r, ρ1) => some (.rt r ρ1) | none => none) := id rfl
theorem eS_ret_clr (i : Nat) : evS C (.ret (.clr i)) ρ = (match evX C (.clr i) ρ with | some (r, ρ1) => some (.rt r ρ1) | none => none) := id rfl
theorem eS_ret_meth (m : Mt) (a es : Ir) : evS C (.ret (.meth m a es)) ρ = (match evX C (.meth m a es) ρ with | some (r, ρ1) => some (.rt r ρ1) | none => none) := id rfl
theorem lpS_nil (t b : Ir) : lpS C t b [] ρ = some (.nx ρ) := id rfl
theorem lpS_cons (t b : Ir) (d : PD) (ds : List PD) : lpS C t b (d :: ds) ρ = (match asg t d ρ with | none => none | some ρ1 => match evS C b ρ1 with | some (.nx ρ2) => lpS C t b ds ρ2 | some (.ct ρ2) => lpS C t b ds ρ2 | some (.bk ρ2) => some (.nx ρ2) | some (.rt r ρ2) => some (.rt r ρ2) | none => none) := id rfl
theorem cmS_nil (t c e : Ir) (acc : List PD) : cmS C t c e ρ [] acc = some acc := id rfl
theorem cmS_cons (t c e : Ir) (d : PD) (ds acc : List PD) : cmS C t c e ρ (d :: ds) acc = (match asg t d ρ with | none => none | some ρ1 => match evX C c ρ1 with | some (.val (.bool true), ρ2) => (match evX C e ρ2 with | some (r, _) => (match frz r with | some x => if acc.length < sizeLine then cmS C t c e ρ ds (acc ++ [x]) else none | none => none) | none => none) | some (.val (.bool false), _) => cmS C t c e ρ ds acc | _ => none) := id rfl
theorem whS_step (c b : Ir) (n : Nat) : whS C c b (n + 1) ρ = (match evX C c ρ with | some (.val (.bool true), ρ1) => (match evS C b ρ1 with | some (.nx ρ2) => whS C c b n ρ2 | some (.ct ρ2) => whS C c b n ρ2 | some (.bk ρ2) => some (.nx ρ2) | some (.rt r ρ2) => some (.rt r ρ2) | none => none) | some (.val (.bool false), ρ1) => some (.nx ρ1) | _ => none) := id rfl
end
end Dv

set_option Elab.async false
set_option linter.all false
set_option maxRecDepth 100000
set_option maxHeartbeats 4000000
/-! the step equations in one -/
namespace Dv
open PySem PySem.Spec PyProof.Rows L2
theorem EV0 : 
  (∀ (C : Cfg) (ρ : DEn), oX C true .non ρ = (match evX C .non ρ with | some (r, ρ1) => some (.res r, ρ1) | none => none)) ∧
  (∀ (C : Cfg) (ρ : DEn), oX C false .non ρ = (match evX C .non ρ with | some (r, ρ1) => (match frz r with | some d => some (.res (.val d), ρ1) | none => none) | none => none)) ∧
  (∀ (C : Cfg) (ρ : DEn) (b : Bool), oX C true (.bl b) ρ = (match evX C (.bl b) ρ with | some (r, ρ1) => some (.res r, ρ1) | none => none)) ∧
  (∀ (C : Cfg) (ρ : DEn) (b : Bool), oX C false (.bl b) ρ = (match evX C (.bl b) ρ with | some (r, ρ1) => (match frz r with | some d => some (.res (.val d), ρ1) | none => none) | none => none)) ∧
  (∀ (C : Cfg) (ρ : DEn) (i : Int), oX C true (.int i) ρ = (match evX C (.int i) ρ with | some (r, ρ1) => some (.res r, ρ1) | none => none)) ∧
  (∀ (C : Cfg) (ρ : DEn) (i : Int), oX C false (.int i) ρ = (match evX C (.int i) ρ with | some (r, ρ1) => (match frz r with | some d => some (.res (.val d), ρ1) | none => none) | none => none)) ∧
  (∀ (C : Cfg) (ρ : DEn) (s : Str), oX C true (.str s) ρ = (match evX C (.str s) ρ with | some (r, ρ1) => some (.res r, ρ1) | none => none)) ∧
  (∀ (C : Cfg) (ρ : DEn) (s : Str), oX C false (.str s) ρ = (match evX C (.str s) ρ with | some (r, ρ1) => (match frz r with | some d => some (.res (.val d), ρ1) | none => none) | none => none)) ∧
  (∀ (C : Cfg) (ρ : DEn) (g : Nat), oX C true (.glb g) ρ = (match evX C (.glb g) ρ with | some (r, ρ1) => some (.res r, ρ1) | none => none)) ∧
  (∀ (C : Cfg) (ρ : DEn) (g : Nat), oX C false (.glb g) ρ = (match evX C (.glb g) ρ with | some (r, ρ1) => (match frz r with | some d => some (.res (.val d), ρ1) | none => none) | none => none)) ∧
  (∀ (C : Cfg) (ρ : DEn) (o : Bop) (a b : Ir), oX C true (.bin o a b) ρ = (match evX C (.bin o a b) ρ with | some (r, ρ1) => some (.res r, ρ1) | none => none)) ∧
  (∀ (C : Cfg) (ρ : DEn) (o : Bop) (a b : Ir), oX C false (.bin o a b) ρ = (match evX C (.bin o a b) ρ with | some (r, ρ1) => (match frz r with | some d => some (.res (.val d), ρ1) | none => none) | none => none)) ∧
  (∀ (C : Cfg) (ρ : DEn) (a : Ir), oX C true (.neg a) ρ = (match evX C (.neg a) ρ with | some (r, ρ1) => some (.res r, ρ1) | none => none)) ∧
  (∀ (C : Cfg) (ρ : DEn) (a : Ir), oX C false (.neg a) ρ = (match evX C (.neg a) ρ with | some (r, ρ1) => (match frz r with | some d => some (.res (.val d), ρ1) | none => none) | none => none)) ∧
  (∀ (C : Cfg) (ρ : DEn) (a : Ir), oX C true (.not a) ρ = (match evX C (.not a) ρ with | some (r, ρ1) => some (.res r, ρ1) | none => none)) ∧
  (∀ (C : Cfg) (ρ : DEn) (a : Ir), oX C false (.not a) ρ = (match evX C (.not a) ρ with | some (r, ρ1) => (match frz r with | some d => some (.res (.val d), ρ1) | none => none) | none => none)) ∧
  (∀ (C : Cfg) (ρ : DEn) (o : Cop) (a b : Ir), oX C true (.cmp o a b) ρ = (match evX C (.cmp o a b) ρ with | some (r, ρ1) => some (.res r, ρ1) | none => none)) ∧
  (∀ (C : Cfg) (ρ : DEn) (o : Cop) (a b : Ir), oX C false (.cmp o a b) ρ = (match evX C (.cmp o a b) ρ with | some (r, ρ1) => (match frz r with | some d => some (.res (.val d), ρ1) | none => none) | none => none)) ∧
  (∀ (C : Cfg) (ρ : DEn) (o p : Cop) (a b c : Ir), oX C true (.chain o p a b c) ρ = (match evX C (.chain o p a b c) ρ with | some (r, ρ1) => some (.res r, ρ1) | none => none)) ∧
  (∀ (C : Cfg) (ρ : DEn) (o p : Cop) (a b c : Ir), oX C false (.chain o p a b c) ρ = (match evX C (.chain o p a b c) ρ with | some (r, ρ1) => (match frz r with | some d => some (.res (.val d), ρ1) | none => none) | none => none)) ∧
  (∀ (C : Cfg) (ρ : DEn) (a b : Ir), oX C true (.and a b) ρ = (match evX C (.and a b) ρ with | some (r, ρ1) => some (.res r, ρ1) | none => none)) ∧
  (∀ (C : Cfg) (ρ : DEn) (a b : Ir), oX C false (.and a b) ρ = (match evX C (.and a b) ρ with | some (r, ρ1) => (match frz r with | some d => some (.res (.val d), ρ1) | none => none) | none => none)) ∧
  (∀ (C : Cfg) (ρ : DEn) (a b : Ir), oX C true (.or a b) ρ = (match evX C (.or a b) ρ with | some (r, ρ1) => some (.res r, ρ1) | none => none)) ∧
  (∀ (C : Cfg) (ρ : DEn) (a b : Ir), oX C false (.or a b) ρ = (match evX C (.or a b) ρ with | some (r, ρ1) => (match frz r with | some d => some (.res (.val d), ρ1) | none => none) | none => none)) ∧
  (∀ (C : Cfg) (ρ : DEn) (c a b : Ir), oX C true (.ife c a b) ρ = (match evX C (.ife c a b) ρ with | some (r, ρ1) => some (.res r, ρ1) | none => none)) ∧
  (∀ (C : Cfg) (ρ : DEn) (c a b : Ir), oX C false (.ife c a b) ρ = (match evX C (.ife c a b) ρ with | some (r, ρ1) => (match frz r with | some d => some (.res (.val d), ρ1) | none => none) | none => none)) ∧
  (∀ (C : Cfg) (ρ : DEn) (a b : Ir), oX C true (.sub a b) ρ = (match evX C (.sub a b) ρ with | some (r, ρ1) => some (.res r, ρ1) | none => none)) ∧
  (∀ (C : Cfg) (ρ : DEn) (a b : Ir), oX C false (.sub a b) ρ = (match evX C (.sub a b) ρ with | some (r, ρ1) => (match frz r with | some d => some (.res (.val d), ρ1) | none => none) | none => none)) ∧
  (∀ (C : Cfg) (ρ : DEn) (a lo hi : Ir), oX C true (.slc a lo hi) ρ = (match evX C (.slc a lo hi) ρ with | some (r, ρ1) => some (.res r, ρ1) | none => none)) ∧
  (∀ (C : Cfg) (ρ : DEn) (a lo hi : Ir), oX C false (.slc a lo hi) ρ = (match evX C (.slc a lo hi) ρ with | some (r, ρ1) => (match frz r with | some d => some (.res (.val d), ρ1) | none => none) | none => none)) ∧
  (∀ (C : Cfg) (ρ : DEn) (a : Ir), oX C true (.rev a) ρ = (match evX C (.rev a) ρ with | some (r, ρ1) => some (.res r, ρ1) | none => none)) ∧
  (∀ (C : Cfg) (ρ : DEn) (a : Ir), oX C false (.rev a) ρ = (match evX C (.rev a) ρ with | some (r, ρ1) => (match frz r with | some d => some (.res (.val d), ρ1) | none => none) | none => none)) ∧
  (∀ (C : Cfg) (ρ : DEn) (es : Ir), oX C true (.tup es) ρ = (match evX C (.tup es) ρ with | some (r, ρ1) => some (.res r, ρ1) | none => none)) ∧
  (∀ (C : Cfg) (ρ : DEn) (es : Ir), oX C false (.tup es) ρ = (match evX C (.tup es) ρ with | some (r, ρ1) => (match frz r with | some d => some (.res (.val d), ρ1) | none => none) | none => none)) ∧
  (∀ (C : Cfg) (ρ : DEn) (es : Ir), oX C true (.lst es) ρ = (match evX C (.lst es) ρ with | some (r, ρ1) => some (.res r, ρ1) | none => none)) ∧
  (∀ (C : Cfg) (ρ : DEn) (es : Ir), oX C false (.lst es) ρ = (match evX C (.lst es) ρ with | some (r, ρ1) => (match frz r with | some d => some (.res (.val d), ρ1) | none => none) | none => none)) ∧
  (∀ (C : Cfg) (ρ : DEn) (f : Nat) (es : Ir), oX C true (.call f es) ρ = (match evX C (.call f es) ρ with | some (r, ρ1) => some (.res r, ρ1) | none => none)) ∧
  (∀ (C : Cfg) (ρ : DEn) (f : Nat) (es : Ir), oX C false (.call f es) ρ = (match evX C (.call f es) ρ with | some (r, ρ1) => (match frz r with | some d => some (.res (.val d), ρ1) | none => none) | none => none)) ∧
  (∀ (C : Cfg) (ρ : DEn) (p : Pr) (es : Ir), oX C true (.prim p es) ρ = (match evX C (.prim p es) ρ with | some (r, ρ1) => some (.res r, ρ1) | none => none)) ∧
  (∀ (C : Cfg) (ρ : DEn) (p : Pr) (es : Ir), oX C false (.prim p es) ρ = (match evX C (.prim p es) ρ with | some (r, ρ1) => (match frz r with | some d => some (.res (.val d), ρ1) | none => none) | none => none)) ∧
  (∀ (C : Cfg) (ρ : DEn) (ts : List Ty) (a : Ir), oX C true (.isi ts a) ρ = (match evX C (.isi ts a) ρ with | some (r, ρ1) => some (.res r, ρ1) | none => none)) ∧
  (∀ (C : Cfg) (ρ : DEn) (ts : List Ty) (a : Ir), oX C false (.isi ts a) ρ = (match evX C (.isi ts a) ρ with | some (r, ρ1) => (match frz r with | some d => some (.res (.val d), ρ1) | none => none) | none => none)) ∧
  (∀ (C : Cfg) (ρ : DEn) (t it c e : Ir) (vs : List Nat), oX C true (.comp t it c e vs) ρ = (match evX C (.comp t it c e vs) ρ with | some (r, ρ1) => some (.res r, ρ1) | none => none)) ∧
  (∀ (C : Cfg) (ρ : DEn) (t it c e : Ir) (vs : List Nat), oX C false (.comp t it c e vs) ρ = (match evX C (.comp t it c e vs) ρ with | some (r, ρ1) => (match frz r with | some d => some (.res (.val d), ρ1) | none => none) | none => none)) ∧
  (∀ (C : Cfg) (ρ : DEn) (i : Nat) (e : Ir), oX C true (.app i e) ρ = (match evX C (.app i e) ρ with | some (r, ρ1) => some (.res r, ρ1) | none => none)) ∧
  (∀ (C : Cfg) (ρ : DEn) (i : Nat) (e : Ir), oX C false (.app i e) ρ = (match evX C (.app i e) ρ with | some (r, ρ1) => (match frz r with | some d => some (.res (.val d), ρ1) | none => none) | none => none)) ∧
  (∀ (C : Cfg) (ρ : DEn) (i : Nat) (e : Ir), oX C true (.ext i e) ρ = (match evX C (.ext i e) ρ with | some (r, ρ1) => some (.res r, ρ1) | none => none)) ∧
  (∀ (C : Cfg) (ρ : DEn) (i : Nat) (e : Ir), oX C false (.ext i e) ρ = (match evX C (.ext i e) ρ with | some (r, ρ1) => (match frz r with | some d => some (.res (.val d), ρ1) | none => none) | none => none)) ∧
  (∀ (C : Cfg) (ρ : DEn) (i : Nat), oX C true (.pop i) ρ = (match evX C (.pop i) ρ with | some (r, ρ1) => some (.res r, ρ1) | none => none)) ∧
  (∀ (C : Cfg) (ρ : DEn) (i : Nat), oX C false (.pop i) ρ = (match evX C (.pop i) ρ with | some (r, ρ1) => (match frz r with | some d => some (.res (.val d), ρ1) | none => none) | none => none)) ∧
  (∀ (C : Cfg) (ρ : DEn) (i : Nat), oX C false (.var i) ρ = (match evX C (.var i) ρ with | some (r, ρ1) => (match frz r with | some d => some (.res (.val d), ρ1) | none => none) | none => none)) ∧
  (∀ (C : Cfg) (ρ : DEn) (i : Nat), oX C true (.var i) ρ = (match ρ[i]? with | some .un => none | none => none | _ => some (.slot i, ρ))) ∧
  (∀ (C : Cfg) (ρ : DEn) (m : Bool) (i : Nat), oX C m (.lend i) ρ = (match ρ[i]? with | some (.own _ _) => some (.slot i, ρ) | _ => none)) ∧
  (∀ (C : Cfg) (ρ : DEn) (i : Nat), evX C (.var i) ρ = (match ρ[i]? with | some (.val d) => some (.val d, ρ) | some (.own _ ds) => some (.val (.list ds), ρ.set i (.val (.list ds))) | _ => none)) ∧
  (∀ (C : Cfg) (ρ : DEn), evX C .non ρ = (some (.val .none, ρ))) ∧
  (∀ (C : Cfg) (ρ : DEn) (b : Bool), evX C (.bl b) ρ = (some (.val (.bool b), ρ))) ∧
  (∀ (C : Cfg) (ρ : DEn) (i : Int), evX C (.int i) ρ = (some (.val (.int i), ρ))) ∧
  (∀ (C : Cfg) (ρ : DEn) (s : Str), evX C (.str s) ρ = (some (.val (.str s), ρ))) ∧
  (∀ (C : Cfg) (ρ : DEn) (g : Nat), evX C (.glb g) ρ = (match C.gl g with | some d => some (.val d, ρ) | none => none)) ∧
  (∀ (C : Cfg) (ρ : DEn) (o : Bop) (a b : Ir), evX C (.bin o a b) ρ = (match oX C true a ρ with | none => none | some (x, ρ1) => match oX C true b ρ1 with | none => none | some (y, ρ2) => match rdO ρ2 x, rdO ρ2 y with | some d, some e => (match bopD o d e with | some r => some (r, ρ2) | none => none) | _, _ => none)) ∧
  (∀ (C : Cfg) (ρ : DEn) (a : Ir), evX C (.neg a) ρ = (match evX C a ρ with | some (.val (.int i), ρ1) => some (.val (.int (-i)), ρ1) | _ => none)) ∧
  (∀ (C : Cfg) (ρ : DEn) (a : Ir), evX C (.not a) ρ = (match evX C a ρ with | some (.val (.bool b), ρ1) => some (.val (.bool (!b)), ρ1) | _ => none)) ∧
  (∀ (C : Cfg) (ρ : DEn) (o : Cop) (a b : Ir), evX C (.cmp o a b) ρ = (match oX C true a ρ with | none => none | some (x, ρ1) => match oX C true b ρ1 with | none => none | some (y, ρ2) => match rdO ρ2 x, rdO ρ2 y with | some d, some e => (match copD o d e with | some r => some (.val (.bool r), ρ2) | none => none) | _, _ => none)) ∧
  (∀ (C : Cfg) (ρ : DEn) (o p : Cop) (a b c : Ir), evX C (.chain o p a b c) ρ = (match oX C true a ρ with | none => none | some (x, ρ1) => match oX C true b ρ1 with | none => none | some (y, ρ2) => match rdO ρ2 x, rdO ρ2 y with | some d, some e => (match copD o d e with | some false => some (.val (.bool false), ρ2) | some true => (match oX C true c ρ2 with | none => none | some (z, ρ3) => match rdO ρ3 y, rdO ρ3 z with | some e', some f => (match copD p e' f with | some r => some (.val (.bool r), ρ3) | none => none) | _, _ => none) | none => none) | _, _ => none)) ∧
  (∀ (C : Cfg) (ρ : DEn) (a b : Ir), evX C (.and a b) ρ = (match evX C a ρ with | some (.val (.bool true), ρ1) => evX C b ρ1 | some (.val (.bool false), ρ1) => some (.val (.bool false), ρ1) | _ => none)) ∧
  (∀ (C : Cfg) (ρ : DEn) (a b : Ir), evX C (.or a b) ρ = (match evX C a ρ with | some (.val (.bool false), ρ1) => evX C b ρ1 | some (.val (.bool true), ρ1) => some (.val (.bool true), ρ1) | _ => none)) ∧
  (∀ (C : Cfg) (ρ : DEn) (c a b : Ir), evX C (.ife c a b) ρ = (match evX C c ρ with | some (.val (.bool true), ρ1) => evX C a ρ1 | some (.val (.bool false), ρ1) => evX C b ρ1 | _ => none)) ∧
  (∀ (C : Cfg) (ρ : DEn) (a b : Ir), evX C (.sub a b) ρ = (match oX C true a ρ with | none => none | some (x, ρ1) => match oX C true b ρ1 with | none => none | some (y, ρ2) => match rdO ρ2 x, rdO ρ2 y with | some d, some e => (match subD d e with | some r => some (.val r, ρ2) | none => none) | _, _ => none)) ∧
  (∀ (C : Cfg) (ρ : DEn) (a lo hi : Ir), evX C (.slc a lo hi) ρ = (match oX C true a ρ with | none => none | some (x, ρ1) => match evP C lo ρ1 with | none => none | some (l, ρ2) => match evP C hi ρ2 with | none => none | some (h, ρ3) => match rdO ρ3 x with | some d => (match slD d l h with | some r => some (r, ρ3) | none => none) | none => none)) ∧
  (∀ (C : Cfg) (ρ : DEn) (a : Ir), evX C (.rev a) ρ = (match oX C true a ρ with | none => none | some (x, ρ1) => match rdO ρ1 x with | some (.list ds) => some (.own none ds.reverse, ρ1) | _ => none)) ∧
  (∀ (C : Cfg) (ρ : DEn) (es : Ir), evX C (.tup es) ρ = (match evL C false es ρ with | none => none | some (xs, ρ1) => match valsOf xs with | some ds => if ds.length ≤ sizeLine then some (.val (.tuple ds), ρ1) else none | none => none)) ∧
  (∀ (C : Cfg) (ρ : DEn) (es : Ir), evX C (.lst es) ρ = (match evL C false es ρ with | none => none | some (xs, ρ1) => match valsOf xs with | some ds => if ds.length ≤ sizeLine then some (.own none ds, ρ1) else none | none => none)) ∧
  (∀ (C : Cfg) (ρ : DEn) (f : Nat) (es : Ir), evX C (.call f es) ρ = (match evL C false es ρ with | none => none | some (xs, ρ1) => if (slotsOf xs).Nodup then match argsOf ρ1 xs with | none => none | some as => (match C.fn f as with | none => none | some (r, os) => (match putBack ρ1 xs os with | some ρ2 => some (r, ρ2) | none => none)) else none)) ∧
  (∀ (C : Cfg) (ρ : DEn) (p : Pr) (es : Ir), evX C (.prim p es) ρ = (match evL C true es ρ with | none => none | some (xs, ρ1) => match rdAll ρ1 xs with | none => none | some ds => (match prD p ds with | some r => some (r, ρ1) | none => none))) ∧
  (∀ (C : Cfg) (ρ : DEn) (ts : List Ty) (a : Ir), evX C (.isi ts a) ρ = (match oX C true a ρ with | none => none | some (x, ρ1) => match rdO ρ1 x with | none => none | some d => (match isiD ts d with | some b => some (.val (.bool b), ρ1) | none => none))) ∧
  (∀ (C : Cfg) (ρ : DEn) (i : Nat) (e : Ir), evX C (.app i e) ρ = (match ρ[i]? with | some (.own _ _) => (match oX C false e ρ with | some (.res (.val d), ρ1) => (match ρ1[i]? with | some (.own p ds) => if ds.length < sizeLine then some (.val .none, ρ1.set i (.own p (ds ++ [d]))) else none | _ => none) | _ => none) | _ => none)) ∧
  (∀ (C : Cfg) (ρ : DEn) (i : Nat) (e : Ir), evX C (.ext i e) ρ = (match ρ[i]? with | some (.own _ _) => (match oX C false e ρ with | some (.res (.val d), ρ1) => (match ρ1[i]? with | some (.own p ds) => (match seqD d with | some es => if ds.length + es.length ≤ sizeLine then some (.val .none, ρ1.set i (.own p (ds ++ es))) else none | none => none) | _ => none) | _ => none) | _ => none)) ∧
  (∀ (C : Cfg) (ρ : DEn) (i : Nat), evX C (.pop i) ρ = (match ρ[i]? with | some (.own p ds) => (match ds[ds.length - 1]? with | some d => some (.val d, ρ.set i (.own p ds.dropLast)) | none => none) | _ => none)) ∧
  (∀ (C : Cfg) (ρ : DEn), evP C .nil ρ = some (none, ρ)) ∧
  (∀ (C : Cfg) (ρ : DEn) (a b : Ir), evP C (.cons a b) ρ = (match evX C a ρ with | some (.val (.int i), ρ1) => some (some i, ρ1) | _ => none)) ∧
  (∀ (C : Cfg) (ρ : DEn) (m : Bool), evL C m .nil ρ = some ([], ρ)) ∧
  (∀ (C : Cfg) (ρ : DEn) (m : Bool) (a r : Ir), evL C m (.cons a r) ρ = (match oX C m a ρ with | none => none | some (x, ρ1) => match evL C m r ρ1 with | none => none | some (xs, ρ2) => some (x :: xs, ρ2))) ∧
  (∀ (C : Cfg) (ρ : DEn) (m : Bool) (a b : Ir), evI C m (.rng2 a b) ρ = (match evX C a ρ with | some (.val (.int i), ρ1) => (match evX C b ρ1 with | some (.val (.int j), ρ2) => (match rngD i j with | some ds => some (ds, ρ2) | none => none) | _ => none) | _ => none)) ∧
  (∀ (C : Cfg) (ρ : DEn) (m : Bool) (a b : Ir), evI C m (.cons a b) ρ = (match oX C m a ρ with | none => none | some (x, ρ1) => match rdO ρ1 x with | none => none | some d => match itD d with | some ds => some (ds, ρ1) | none => none)) ∧
  (∀ (C : Cfg) (ρ : DEn), evS C .nil ρ = (some (.nx ρ))) ∧
  (∀ (C : Cfg) (ρ : DEn) (a b : Ir), evS C (.cons a b) ρ = (match evS C a ρ with | some (.nx ρ1) => evS C b ρ1 | o => o)) ∧
  (∀ (C : Cfg) (ρ : DEn) (i : Nat) (keep : Bool) (e : Ir), evS C (.set i keep e) ρ = (match evX C e ρ with | none => none | some (r, ρ1) => if i < ρ1.length then (match keep with | true => (match r with | .own _ ds => some (.nx (ρ1.set i (.own none ds))) | _ => none) | false => (match frz r with | some d => some (.nx (ρ1.set i (.val d))) | none => none)) else none)) ∧
  (∀ (C : Cfg) (ρ : DEn) (t e : Ir), evS C (.unp t e) ρ = (match evX C e ρ with | none => none | some (r, ρ1) => match frz r with | none => none | some d => match asg t d ρ1 with | some ρ2 => some (.nx ρ2) | none => none)) ∧
  (∀ (C : Cfg) (ρ : DEn) (i : Nat) (ix e : Ir), evS C (.sti i ix e) ρ = (match evX C e ρ with | none => none | some (r, ρ1) => match frz r with | none => none | some d => match ρ1[i]? with | some (.own _ _) => (match evX C ix ρ1 with | some (.val (.int k), ρ2) => (match ρ2[i]? with | some (.own p ds) => (match ixN ds.length k with | some j => some (.nx (ρ2.set i (.own p (ds.set j d)))) | none => none) | _ => none) | _ => none) | _ => none)) ∧
  (∀ (C : Cfg) (ρ : DEn) (e : Ir), evS C (.ex e) ρ = (match evX C e ρ with | some (_, ρ1) => some (.nx ρ1) | none => none)) ∧
  (∀ (C : Cfg) (ρ : DEn) (c a b : Ir), evS C (.ifs c a b) ρ = (match evX C c ρ with | some (.val (.bool true), ρ1) => evS C a ρ1 | some (.val (.bool false), ρ1) => evS C b ρ1 | _ => none)) ∧
  (∀ (C : Cfg) (ρ : DEn) (c b : Ir), evS C (.whl c b) ρ = (whS C c b wfuel ρ)) ∧
  (∀ (C : Cfg) (ρ : DEn) (t it b : Ir), evS C (.fors t it b) ρ = (match evI C false it ρ with | none => none | some (ds, ρ1) => lpS C t b ds ρ1)) ∧
  (∀ (C : Cfg) (ρ : DEn), evS C .brk ρ = (some (.bk ρ))) ∧
  (∀ (C : Cfg) (ρ : DEn), evS C .cnt ρ = (some (.ct ρ))) ∧
  (∀ (C : Cfg) (ρ : DEn), evS C .pas ρ = (some (.nx ρ))) ∧
  (∀ (C : Cfg) (ρ : DEn) (i : Nat), evS C (.ret (.var i)) ρ = (match ρ[i]? with | some (.own none ds) => some (.rt (.own none ds) (ρ.set i .un)) | some (.val d) => some (.rt (.val d) ρ) | _ => none)) ∧
  (∀ (C : Cfg) (ρ : DEn), evS C (.ret .non) ρ = (match evX C .non ρ with | some (r, ρ1) => some (.rt r ρ1) | none => none)) ∧
  (∀ (C : Cfg) (ρ : DEn) (b : Bool), evS C (.ret (.bl b)) ρ = (match evX C (.bl b) ρ with | some (r, ρ1) => some (.rt r ρ1) | none => none)) ∧
  (∀ (C : Cfg) (ρ : DEn) (i : Int), evS C (.ret (.int i)) ρ = (match evX C (.int i) ρ with | some (r, ρ1) => some (.rt r ρ1) | none => none)) ∧
  (∀ (C : Cfg) (ρ : DEn) (s : Str), evS C (.ret (.str s)) ρ = (match evX C (.str s) ρ with | some (r, ρ1) => some (.rt r ρ1) | none => none)) ∧
  (∀ (C : Cfg) (ρ : DEn) (g : Nat), evS C (.ret (.glb g)) ρ = (match evX C (.glb g) ρ with | some (r, ρ1) => some (.rt r ρ1) | none => none)) ∧
  (∀ (C : Cfg) (ρ : DEn) (o : Bop) (a b : Ir), evS C (.ret (.bin o a b)) ρ = (match evX C (.bin o a b) ρ with | some (r, ρ1) => some (.rt r ρ1) | none => none)) ∧
  (∀ (C : Cfg) (ρ : DEn) (a : Ir), evS C (.ret (.neg a)) ρ = (match evX C (.neg a) ρ with | some (r, ρ1) => some (.rt r ρ1) | none => none)) ∧
  (∀ (C : Cfg) (ρ : DEn) (a : Ir), evS C (.ret (.not a)) ρ = (match evX C (.not a) ρ with | some (r, ρ1) => some (.rt r ρ1) | none => none)) ∧
  (∀ (C : Cfg) (ρ : DEn) (o : Cop) (a b : Ir), evS C (.ret (.cmp o a b)) ρ = (match evX C (.cmp o a b) ρ with | some (r, ρ1) => some (.rt r ρ1) | none => none)) ∧
  (∀ (C : Cfg) (ρ : DEn) (o p : Cop) (a b c : Ir), evS C (.ret (.chain o p a b c)) ρ = (match evX C (.chain o p a b c) ρ with | some (r, ρ1) => some (.rt r ρ1) | none => none)) ∧
  (∀ (C : Cfg) (ρ : DEn) (a b : Ir), evS C (.ret (.and a b)) ρ = (match evX C (.and a b) ρ with | some (r, ρ1) => some (.rt r ρ1) | none => none)) ∧
  (∀ (C : Cfg) (ρ : DEn) (a b : Ir), evS C (.ret (.or a b)) ρ = (match evX C (.or a b) ρ with | some (r, ρ1) => some (.rt r ρ1) | none => none)) ∧
  (∀ (C : Cfg) (ρ : DEn) (c a b : Ir), evS C (.ret (.ife c a b)) ρ = (match evX C (.ife c a b) ρ with | some (r, ρ1) => some (.rt r ρ1) | none => none)) ∧
  (∀ (C : Cfg) (ρ : DEn) (a b : Ir), evS C (.ret (.sub a b)) ρ = (match evX C (.sub a b) ρ with | some (r, ρ1) => some (.rt r ρ1) | none => none)) ∧
  (∀ (C : Cfg) (ρ : DEn) (a lo hi : Ir), evS C (.ret (.slc a lo hi)) ρ = (match evX C (.slc a lo hi) ρ with | some (r, ρ1) => some (.rt r ρ1) | none => none)) ∧
  (∀ (C : Cfg) (ρ : DEn) (a : Ir), evS C (.ret (.rev a)) ρ = (match evX C (.rev a) ρ with | some (r, ρ1) => some (.rt r ρ1) | none => none)) ∧
  (∀ (C : Cfg) (ρ : DEn) (es : Ir), evS C (.ret (.tup es)) ρ = (match evX C (.tup es) ρ with | some (r, ρ1) => some (.rt r ρ1) | none => none)) ∧
  (∀ (C : Cfg) (ρ : DEn) (es : Ir), evS C (.ret (.lst es)) ρ = (match evX C (.lst es) ρ with | some (r, ρ1) => some (.rt r ρ1) | none => none)) ∧
  (∀ (C : Cfg) (ρ : DEn) (f : Nat) (es : Ir), evS C (.ret (.call f es)) ρ = (match evX C (.call f es) ρ with | some (r, ρ1) => some (.rt r ρ1) | none => none)) ∧
  (∀ (C : Cfg) (ρ : DEn) (p : Pr) (es : Ir), evS C (.ret (.prim p es)) ρ = (match evX C (.prim p es) ρ with | some (r, ρ1) => some (.rt r ρ1) | none => none)) ∧
  (∀ (C : Cfg) (ρ : DEn) (ts : List Ty) (a : Ir), evS C (.ret (.isi ts a)) ρ = (match evX C (.isi ts a) ρ with | some (r, ρ1) => some (.rt r ρ1) | none => none)) ∧
  (∀ (C : Cfg) (ρ : DEn) (t it c e : Ir) (vs : List Nat), evS C (.ret (.comp t it c e vs)) ρ = (match evX C (.comp t it c e vs) ρ with | some (r, ρ1) => some (.rt r ρ1) | none => none)) ∧
  (∀ (C : Cfg) (ρ : DEn) (i : Nat) (e : Ir), evS C (.ret (.app i e)) ρ = (match evX C (.app i e) ρ with | some (r, ρ1) => some (.rt r ρ1) | none => none)) ∧
  (∀ (C : Cfg) (ρ : DEn) (i : Nat) (e : Ir), evS C (.ret (.ext i e)) ρ = (match evX C (.ext i e) ρ with | some (r, ρ1) => some (.rt r ρ1) | none => none)) ∧
  (∀ (C : Cfg) (ρ : DEn) (i : Nat), evS C (.ret (.pop i)) ρ = (match evX C (.pop i) ρ with | some (r, ρ1) => some (.rt r ρ1) | none => none)) ∧
  (∀ (C : Cfg) (ρ : DEn) (t b : Ir), lpS C t b [] ρ = some (.nx ρ)) ∧
  (∀ (C : Cfg) (ρ : DEn) (t b : Ir) (d : PD) (ds : List PD), lpS C t b (d :: ds) ρ = (match asg t d ρ with | none => none | some ρ1 => match evS C b ρ1 with | some (.nx ρ2) => lpS C t b ds ρ2 | some (.ct ρ2) => lpS C t b ds ρ2 | some (.bk ρ2) => some (.nx ρ2) | some (.rt r ρ2) => some (.rt r ρ2) | none => none)) ∧
  (∀ (C : Cfg) (ρ : DEn) (t c e : Ir) (acc : List PD), cmS C t c e ρ [] acc = some acc) ∧
  (∀ (C : Cfg) (ρ : DEn) (t c e : Ir) (d : PD) (ds acc : List PD), cmS C t c e ρ (d :: ds) acc = (match asg t d ρ with | none => none | some ρ1 => match evX C c ρ1 with | some (.val (.bool true), ρ2) => (match evX C e ρ2 with | some (r, _) => (match frz r with | some x => if acc.length < sizeLine then cmS C t c e ρ ds (acc ++ [x]) else none | none => none) | none => none) | some (.val (.bool false), _) => cmS C t c e ρ ds acc | _ => none)) ∧
  (∀ (C : Cfg) (ρ : DEn) (i : Nat), oX C true (.clr i) ρ = (match evX C (.clr i) ρ with | some (r, ρ1) => some (.res r, ρ1) | none => none)) ∧
  (∀ (C : Cfg) (ρ : DEn) (i : Nat), oX C false (.clr i) ρ = (match evX C (.clr i) ρ with | some (r, ρ1) => (match frz r with | some d => some (.res (.val d), ρ1) | none => none) | none => none)) ∧
  (∀ (C : Cfg) (ρ : DEn) (i : Nat), evX C (.clr i) ρ = (match ρ[i]? with | some (.own p _) => some (.val .none, ρ.set i (.own p [])) | _ => none)) ∧
  (∀ (C : Cfg) (ρ : DEn) (i : Nat), evS C (.ret (.clr i)) ρ = (match evX C (.clr i) ρ with | some (r, ρ1) => some (.rt r ρ1) | none => none)) ∧
  (∀ (C : Cfg) (ρ : DEn) (m : Mt) (a es : Ir), oX C true (.meth m a es) ρ = (match evX C (.meth m a es) ρ with | some (r, ρ1) => some (.res r, ρ1) | none => none)) ∧
  (∀ (C : Cfg) (ρ : DEn) (m : Mt) (a es : Ir), oX C false (.meth m a es) ρ = (match evX C (.meth m a es) ρ with | some (r, ρ1) => (match frz r with | some d => some (.res (.val d), ρ1) | none => none) | none => none)) ∧
  (∀ (C : Cfg) (ρ : DEn) (m : Mt) (a es : Ir), evX C (.meth m a es) ρ = (match oX C true a ρ with | none => none | some (x, ρ1) => match rdO ρ1 x with | some (.str z) => (match evL C true es ρ1 with | none => none | some (xs, ρ2) => match rdAll ρ2 xs with | none => none | some ds => (match mtD m z ds with | some r => some (r, ρ2) | none => none)) | _ => none)) ∧
  (∀ (C : Cfg) (ρ : DEn) (m : Mt) (a es : Ir), evS C (.ret (.meth m a es)) ρ = (match evX C (.meth m a es) ρ with | some (r, ρ1) => some (.rt r ρ1) | none => none)) ∧
  (∀ (C : Cfg) (ρ : DEn) (i : Nat) (pl : Bool) (e : Ir), evS C (.aug i pl e) ρ = (match ρ[i]? with | some (.val (.int a)) => (match evX C e ρ with | some (.val (.int b), ρ1) => if i < ρ1.length then some (.nx (ρ1.set i (.val (.int (cond pl (a + b) (a - b)))))) else none | _ => none) | _ => none)) :=
  ⟨fun C ρ  => oXt_non ..,
   fun C ρ  => oXf_non ..,
   fun C ρ a0 => oXt_bl ..,
   fun C ρ a0 => oXf_bl ..,
   fun C ρ a0 => oXt_int ..,
   fun C ρ a0 => oXf_int ..,
   fun C ρ a0 => oXt_str ..,
   fun C ρ a0 => oXf_str ..,
   fun C ρ a0 => oXt_glb ..,
   fun C ρ a0 => oXf_glb ..,
   fun C ρ a0 a1 a2 => oXt_bin ..,
   fun C ρ a0 a1 a2 => oXf_bin ..,
   fun C ρ a0 => oXt_neg ..,
   fun C ρ a0 => oXf_neg ..,
   fun C ρ a0 => oXt_not ..,
   fun C ρ a0 => oXf_not ..,
   fun C ρ a0 a1 a2 => oXt_cmp ..,
   fun C ρ a0 a1 a2 => oXf_cmp ..,
   fun C ρ a0 a1 a2 a3 a4 => oXt_chain ..,
   fun C ρ a0 a1 a2 a3 a4 => oXf_chain ..,
   fun C ρ a0 a1 => oXt_and ..,
   fun C ρ a0 a1 => oXf_and ..,
   fun C ρ a0 a1 => oXt_or ..,
   fun C ρ a0 a1 => oXf_or ..,
   fun C ρ a0 a1 a2 => oXt_ife ..,
   fun C ρ a0 a1 a2 => oXf_ife ..,
   fun C ρ a0 a1 => oXt_sub ..,
   fun C ρ a0 a1 => oXf_sub ..,
   fun C ρ a0 a1 a2 => oXt_slc ..,
   fun C ρ a0 a1 a2 => oXf_slc ..,
   fun C ρ a0 => oXt_rev ..,
   fun C ρ a0 => oXf_rev ..,
   fun C ρ a0 => oXt_tup ..,
   fun C ρ a0 => oXf_tup ..,
   fun C ρ a0 => oXt_lst ..,
   fun C ρ a0 => oXf_lst ..,
   fun C ρ a0 a1 => oXt_call ..,
   fun C ρ a0 a1 => oXf_call ..,
   fun C ρ a0 a1 => oXt_prim ..,
   fun C ρ a0 a1 => oXf_prim ..,
   fun C ρ a0 a1 => oXt_isi ..,
   fun C ρ a0 a1 => oXf_isi ..,
   fun C ρ a0 a1 a2 a3 a4 => oXt_comp ..,
   fun C ρ a0 a1 a2 a3 a4 => oXf_comp ..,
   fun C ρ a0 a1 => oXt_app ..,
   fun C ρ a0 a1 => oXf_app ..,
   fun C ρ a0 a1 => oXt_ext ..,
   fun C ρ a0 a1 => oXf_ext ..,
   fun C ρ a0 => oXt_pop ..,
   fun C ρ a0 => oXf_pop ..,
   fun C ρ a0 => oXf_var ..,
   fun C ρ a0 => oXt_var ..,
   fun C ρ a0 a1 => oX_lend ..,
   fun C ρ a0 => eX_var ..,
   fun C ρ  => eX_non ..,
   fun C ρ a0 => eX_bl ..,
   fun C ρ a0 => eX_int ..,
   fun C ρ a0 => eX_str ..,
   fun C ρ a0 => eX_glb ..,
   fun C ρ a0 a1 a2 => eX_bin ..,
   fun C ρ a0 => eX_neg ..,
   fun C ρ a0 => eX_not ..,
   fun C ρ a0 a1 a2 => eX_cmp ..,
   fun C ρ a0 a1 a2 a3 a4 => eX_chain ..,
   fun C ρ a0 a1 => eX_and ..,
   fun C ρ a0 a1 => eX_or ..,
   fun C ρ a0 a1 a2 => eX_ife ..,
   fun C ρ a0 a1 => eX_sub ..,
   fun C ρ a0 a1 a2 => eX_slc ..,
   fun C ρ a0 => eX_rev ..,
   fun C ρ a0 => eX_tup ..,
   fun C ρ a0 => eX_lst ..,
   fun C ρ a0 a1 => eX_call ..,
   fun C ρ a0 a1 => eX_prim ..,
   fun C ρ a0 a1 => eX_isi ..,
   fun C ρ a0 a1 => eX_app ..,
   fun C ρ a0 a1 => eX_ext ..,
   fun C ρ a0 => eX_pop ..,
   fun C ρ  => eP_nil ..,
   fun C ρ a0 a1 => eP_cons ..,
   fun C ρ a0 => eL_nil ..,
   fun C ρ a0 a1 a2 => eL_cons ..,
   fun C ρ a0 a1 a2 => eI_rng2 ..,
   fun C ρ a0 a1 a2 => eI_cons ..,
   fun C ρ  => eS_nil ..,
   fun C ρ a0 a1 => eS_cons ..,
   fun C ρ a0 a1 a2 => eS_set ..,
   fun C ρ a0 a1 => eS_unp ..,
   fun C ρ a0 a1 a2 => eS_sti ..,
   fun C ρ a0 => eS_ex ..,
   fun C ρ a0 a1 a2 => eS_ifs ..,
   fun C ρ a0 a1 => eS_whl ..,
   fun C ρ a0 a1 a2 => eS_fors ..,
   fun C ρ  => eS_brk ..,
   fun C ρ  => eS_cnt ..,
   fun C ρ  => eS_pas ..,
   fun C ρ a0 => eS_retv ..,
   fun C ρ  => eS_ret_non ..,
   fun C ρ a0 => eS_ret_bl ..,
   fun C ρ a0 => eS_ret_int ..,
   fun C ρ a0 => eS_ret_str ..,
   fun C ρ a0 => eS_ret_glb ..,
   fun C ρ a0 a1 a2 => eS_ret_bin ..,
   fun C ρ a0 => eS_ret_neg ..,
   fun C ρ a0 => eS_ret_not ..,
   fun C ρ a0 a1 a2 => eS_ret_cmp ..,
   fun C ρ a0 a1 a2 a3 a4 => eS_ret_chain ..,
   fun C ρ a0 a1 => eS_ret_and ..,
   fun C ρ a0 a1 => eS_ret_or ..,
   fun C ρ a0 a1 a2 => eS_ret_ife ..,
   fun C ρ a0 a1 => eS_ret_sub ..,
   fun C ρ a0 a1 a2 => eS_ret_slc ..,
   fun C ρ a0 => eS_ret_rev ..,
   fun C ρ a0 => eS_ret_tup ..,
   fun C ρ a0 => eS_ret_lst ..,
   fun C ρ a0 a1 => eS_ret_call ..,
   fun C ρ a0 a1 => eS_ret_prim ..,
   fun C ρ a0 a1 => eS_ret_isi ..,
   fun C ρ a0 a1 a2 a3 a4 => eS_ret_comp ..,
   fun C ρ a0 a1 => eS_ret_app ..,
   fun C ρ a0 a1 => eS_ret_ext ..,
   fun C ρ a0 => eS_ret_pop ..,
   fun C ρ a0 a1 => lpS_nil ..,
   fun C ρ a0 a1 a2 a3 => lpS_cons ..,
   fun C ρ a0 a1 a2 a3 => cmS_nil ..,
   fun C ρ a0 a1 a2 a3 a4 a5 => cmS_cons ..,
   fun C ρ a0 => oXt_clr ..,
   fun C ρ a0 => oXf_clr ..,
   fun C ρ a0 => eX_clr ..,
   fun C ρ a0 => eS_ret_clr ..,
   fun C ρ a0 a1 a2 => oXt_meth ..,
   fun C ρ a0 a1 a2 => oXf_meth ..,
   fun C ρ a0 a1 a2 => eX_meth ..,
   fun C ρ a0 a1 a2 => eS_ret_meth ..,
   fun C ρ a0 a1 a2 => eS_aug ..⟩
def tagB : Nat → DEn → DEn
  | _, [] => []
  | i, .own _ ds :: l => .own (some i) ds :: tagB (i + 1) l
  | i, .val d :: l => .val d :: tagB (i + 1) l
  | i, .un :: l => .un :: tagB (i + 1) l
theorem tagA_off : ∀ (l : DEn) (k : Nat), l.mapIdx (fun i s => match s with
  | .own _ ds => Slo.own (some (i + k)) ds
  | s => s) = tagB k l
  | [], _ => rfl
  | a :: l, k => by
    rw [List.mapIdx_cons]
    have ih := tagA_off l (k + 1)
    have e : (fun (i : Nat) (s : Slo) => match s with
      | .own _ ds => Slo.own (some (i + (k + 1))) ds
      | s => s) = (fun (i : Nat) (s : Slo) => match s with
      | .own _ ds => Slo.own (some (i + 1 + k)) ds
      | s => s) := by
      funext i s
      cases s <;> simp only [Nat.add_assoc, Nat.add_comm 1 k]
    rw [e] at ih
    rw [ih]
    cases a <;> simp only [tagB, Nat.zero_add]
theorem tagA_eq (as : DEn) : tagA as = tagB 0 as := tagA_off as 0
def padU : Nat → Nat → DEn
  | 0, _ => []
  | n + 1, 0 => .un :: padU n 0
  | n + 1, m + 1 => padU n m
theorem padU_eq : ∀ n m : Nat, padU n m = List.replicate (n - m) .un
  | 0, m => by rw [Nat.zero_sub]; rfl
  | n + 1, 0 => by rw [padU, padU_eq n 0]; rfl
  | n + 1, m + 1 => by rw [padU, padU_eq n m, Nat.add_sub_add_right]
theorem EV1 :
  (∀ (ρ : DEn) (i : Nat), rdO ρ (.slot i) = rdS ρ[i]?) ∧
  (∀ (ρ : DEn) (r : Slo), rdO ρ (.res r) = rdS (some r)) ∧
  (∀ (d : PD), rdS (some (.val d)) = some d) ∧
  (∀ (p : Option Nat) (ds : List PD), rdS (some (.own p ds)) = some (.list ds)) ∧
  (∀ (ρ : DEn), rdAll ρ [] = some []) ∧
  (∀ (ρ : DEn) (x : Opd) (xs : List Opd), rdAll ρ (x :: xs) = (match rdO ρ x, rdAll ρ xs with | some d, some ds => some (d :: ds) | _, _ => none)) ∧
  (∀ (d : PD), frz (.val d) = some d) ∧
  (∀ (p : Option Nat) (ds : List PD), frz (.own p ds) = some (.list ds)) ∧
  (valsOf [] = some []) ∧
  (∀ (d : PD) (r : List Opd), valsOf (.res (.val d) :: r) = (match valsOf r with | some ds => some (d :: ds) | none => none)) ∧
  (∀ (ρ : DEn), argsOf ρ [] = some []) ∧
  (∀ (ρ : DEn) (d : PD) (r : List Opd), argsOf ρ (.res (.val d) :: r) = (match argsOf ρ r with | some as => some (.val d :: as) | none => none)) ∧
  (∀ (ρ : DEn) (i : Nat) (r : List Opd), argsOf ρ (.slot i :: r) = (match ρ[i]?, argsOf ρ r with | some (.own _ ds), some as => some (.own none ds :: as) | _, _ => none)) ∧
  (slotsOf [] = []) ∧
  (∀ (i : Nat) (r : List Opd), slotsOf (.slot i :: r) = i :: slotsOf r) ∧
  (∀ (s : Slo) (r : List Opd), slotsOf (.res s :: r) = slotsOf r) ∧
  (∀ (ρ : DEn), putBack ρ [] [] = some ρ) ∧
  (∀ (ρ : DEn) (s o : Slo) (r : List Opd) (os : DEn), putBack ρ (.res s :: r) (o :: os) = putBack ρ r os) ∧
  (∀ (ρ : DEn) (i : Nat) (r : List Opd) (p : Option Nat) (ds : List PD) (os : DEn), putBack ρ (.slot i :: r) (.own p ds :: os) = (match ρ[i]? with | some (.own p _) => putBack (ρ.set i (.own p ds)) r os | _ => none)) ∧
  (∀ (ds : List PD), seqD (.list ds) = some ds) ∧
  (∀ (ds : List PD), seqD (.tuple ds) = some ds) ∧
  (∀ (ds : List PD), itD (.list ds) = some ds) ∧
  (∀ (ds : List PD), itD (.tuple ds) = some ds) ∧
  (∀ (i : Nat) (d : PD) (ρ : DEn), asg (.var i) d ρ = (if i < ρ.length then some (ρ.set i (.val d)) else none)) ∧
  (∀ (es : Ir) (ds : List PD) (ρ : DEn), asg (.tup es) (.tuple ds) ρ = asgs es ds ρ) ∧
  (∀ (es : Ir) (ds : List PD) (ρ : DEn), asg (.tup es) (.list ds) ρ = asgs es ds ρ) ∧
  (∀ (ρ : DEn), asgs .nil [] ρ = some ρ) ∧
  (∀ (i : Nat) (r : Ir) (d : PD) (ds : List PD) (ρ : DEn), asgs (.cons (.var i) r) (d :: ds) ρ = (if i < ρ.length then asgs r ds (ρ.set i (.val d)) else none)) ∧
  (∀ (b : Bool), truS (.val (.bool b)) = some b) ∧
  (∀ (i : Nat), tagB i [] = []) ∧
  (∀ (i : Nat) (l : DEn), tagB i (.un :: l) = .un :: tagB (i + 1) l) ∧
  (∀ (i : Nat) (d : PD) (l : DEn), tagB i (.val d :: l) = .val d :: tagB (i + 1) l) ∧
  (∀ (i : Nat) (p : Option Nat) (ds : List PD) (l : DEn), tagB i (.own p ds :: l) = .own (some i) ds :: tagB (i + 1) l) ∧
  (∀ (ρ : DEn) (i : Nat), outsA ρ i [] = some []) ∧
  (∀ (ρ : DEn) (i : Nat) (p : Option Nat) (ds : List PD) (r : DEn), outsA ρ i (.own p ds :: r) = (match ρ[i]?, outsA ρ (i + 1) r with | some (.own (some j) ds), some os => if i = j then some (.own none ds :: os) else none | _, _ => none)) ∧
  (∀ (ρ : DEn) (i : Nat) (d : PD) (r : DEn), outsA ρ i (.val d :: r) = (match outsA ρ (i + 1) r with | some os => some (.un :: os) | none => none)) ∧
  (∀ (ρ : DEn) (i : Nat) (r : DEn), outsA ρ i (.un :: r) = (match outsA ρ (i + 1) r with | some os => some (.un :: os) | none => none)) ∧
  (∀ (C : Cfg) (np n : Nat) (body : Ir) (as : DEn), runF C np n body as = (if as.length = np then (match evS C body (tagB 0 as ++ padU n np) with | some (.nx ρ) => (match outsA ρ 0 as with | some os => some (.val .none, os) | none => none) | some (.rt r ρ) => (match outsA ρ 0 as with | some os => some (r, os) | none => none) | _ => none) else none)) ∧
  (∀ (m : Nat), padU 0 m = []) ∧
  (∀ (n : Nat), padU (n + 1) 0 = .un :: padU n 0) ∧
  (∀ (n m : Nat), padU (n + 1) (m + 1) = padU n m) ∧
  (∀ (α : Type) (a : α) (l : List α), (a :: l)[0]? = some a) ∧
  (∀ (α : Type) (a : α) (l : List α) (i : Nat), (a :: l)[i + 1]? = l[i]?) ∧
  (∀ (α : Type) (a b : α) (l : List α), (a :: l).set 0 b = b :: l) ∧
  (∀ (α : Type) (a b : α) (l : List α) (i : Nat), (a :: l).set (i + 1) b = a :: l.set i b) ∧
  (∀ (α : Type) (a : α) (l : List α), (0 < (a :: l).length) = True) ∧
  (∀ (α : Type) (a : α) (l : List α) (i : Nat), (i + 1 < (a :: l).length) = (i < l.length)) ∧
  (∀ (α : Type), ([] : List α).length = 0) ∧
  (∀ (α : Type) (a : α) (l : List α), (a :: l).length = l.length + 1) ∧
  (∀ (α : Type) (a : α) (l m : List α), (a :: l) ++ m = a :: (l ++ m)) ∧
  (∀ (α : Type) (m : List α), [] ++ m = m) ∧
  (∀ (α : Type) (m : List α), m ++ [] = m) ∧
  (∀ (α : Type) (a : α), List.replicate 0 a = []) ∧
  (∀ (α : Type) (a : α) (n : Nat), List.replicate (n + 1) a = a :: List.replicate n a) :=
  ⟨fun _ _ => id rfl,
   fun _ _ => id rfl,
   fun _ => id rfl,
   fun _ _ => id rfl,
   fun _ => id rfl,
   fun _ _ _ => id rfl,
   fun _ => id rfl,
   fun _ _ => id rfl,
   id rfl,
   fun _ _ => id rfl,
   fun _ => id rfl,
   fun _ _ _ => id rfl,
   fun _ _ _ => id rfl,
   id rfl,
   fun _ _ => id rfl,
   fun _ _ => id rfl,
   fun _ => id rfl,
   fun _ _ _ _ _ => id rfl,
   fun _ _ _ _ _ _ => id rfl,
   fun _ => id rfl,
   fun _ => id rfl,
   fun _ => id rfl,
   fun _ => id rfl,
   fun _ _ _ => id rfl,
   fun _ _ _ => id rfl,
   fun _ _ _ => id rfl,
   fun _ => id rfl,
   fun _ _ _ _ _ => id rfl,
   fun _ => id rfl,
   fun _ => id rfl,
   fun _ _ => id rfl,
   fun _ _ _ => id rfl,
   fun _ _ _ _ => id rfl,
   fun _ _ => id rfl,
   fun _ _ _ _ _ => id rfl,
   fun _ _ _ _ => id rfl,
   fun _ _ _ => id rfl,
   fun C np n body as => by rw [← tagA_eq, padU_eq]; rfl,
   fun _ => id rfl,
   fun _ => id rfl,
   fun _ _ => id rfl,
   fun _ _ _ => id rfl,
   fun _ _ _ _ => id rfl,
   fun _ _ _ _ => id rfl,
   fun _ _ _ _ _ => id rfl,
   fun _ _ _ => eq_true (Nat.succ_pos _),
   fun _ _ _ _ => propext Nat.succ_lt_succ_iff,
   fun _ => id rfl,
   fun _ _ _ => id rfl,
   fun _ _ _ _ => id rfl,
   fun _ _ => id rfl,
   fun _ m => List.append_nil m,
   fun _ _ => id rfl,
   fun _ _ _ => id rfl⟩
end Dv

set_option Elab.async false
set_option linter.all false
set_option maxRecDepth 100000
set_option maxHeartbeats 4000000
/-! keyword-only defaults -/
namespace Dv
open PySem PySem.Spec PyProof.Rows L2
theorem binds_kw {K : PySem.W.Frag} {x qual : Str} {st : Stmt} {D : Addr} {doc pm cdv ct : Value} {an : Option Addr} {n : Nat} {ps names : List Str} {ks : List Value} (hn : n + ks.length = ps.length)
    (hq : ∀ q ∈ names.zip ks, PySem.W.nsIn K D q.1 = some (some q.2))
    (h : ∀ us : List Value, us.length = n → KwChain D (names.zip ks) (bindArgs (PySem.W.fnOf x qual (defArgs st) (defBody st) (defScope st) .none (.ref D) doc pm an cdv ct) ⟨us, []⟩) (ps.zip (us ++ ks))) :
    Binds K (PySem.W.fnOf x qual (defArgs st) (defBody st) (defScope st) .none (.ref D) doc pm an cdv ct) ps ks := fun s us X hlen =>
  BindsTo.of_looks fun M => KwChain.looks X hq (h us (by rw [List.length_append] at hlen; omega))
/-- a tuple of texts of the written part -/
def strsAre : List Value → List Str → Bool
  | [], [] => true
  | .str x _ :: us, y :: ys => decide (x = y) && strsAre us ys
  | _, _ => false
theorem strsAre_vals : ∀ {us : List Value} {ys : List Str}, strsAre us ys = true → Vals (ys.map V.str) us
  | [], [], _ => .nil
  | [], _ :: _, h => by cases h
  | u :: us, [], h => by cases u <;> cases h
  | u :: us, y :: ys, h => by
    cases u <;> simp only [strsAre] at h <;> try cases h
    rename_i x t
    rw [Bool.and_eq_true, decide_eq_true_eq] at h
    obtain ⟨rfl, h⟩ := h
    exact .cons ⟨t, rfl⟩ (strsAre_vals h)
def clsTup (o : Obj) : Bool := match o.cls with
  | .type T => decide (T = "tuple")
  | _ => false
def datStrs (o : Obj) (ys : List Str) : Bool := match o.data with
  | .seq its _ => decide (its.size ≤ 1000) && strsAre its.toList ys
  | _ => false
def tupIs (K : PySem.W.Frag) (a : Addr) (ys : List Str) : Bool := match K.lookup a with
  | some o => clsTup o && datStrs o ys
  | none => false
theorem tup_rp {K : PySem.W.Frag} {a : Addr} {ys : List Str} (h : tupIs K a ys = true) (F : Hp) : Rp K F (.ref a) (.tuple (ys.map PyData.str)) := by
  unfold tupIs at h
  split at h
  · rename_i o e
    rw [Bool.and_eq_true] at h
    obtain ⟨h1, h2⟩ := h
    unfold clsTup at h1
    unfold datStrs at h2
    split at h1
    · rename_i T e1
      split at h2
      · rename_i its n e2
        rw [Bool.and_eq_true, decide_eq_true_eq] at h2
        have e3 := of_decide_eq_true h1
        subst e3
        exact .tup (.inr ⟨o, its, n, e, e1, e2, Nat.le_trans h2.1 (by decide), strsAre_vals h2.2⟩) (strs_rp ys)
      · cases h2
    · cases h1
  · cases h
theorem tup_rp2 {K : PySem.W.Frag} {a : Addr} {od : Option Addr} {its : Array Value} {n : Nat} {sl : Array (Option Value)} {ys : List Str} (e : K.lookup a = some ⟨.type "tuple", od, .seq its n, sl⟩) (z : decide (its.size ≤ 1000) = true) (h : strsAre its.toList ys = true) (F : Hp) : Rp K F (.ref a) (.tuple (ys.map PyData.str)) :=
  .tup (.inr ⟨_, its, n, e, rfl, rfl, Nat.le_trans (of_decide_eq_true z) (by decide), strsAre_vals h⟩) (strs_rp ys)
end Dv

set_option Elab.async false
set_option linter.all false
set_option maxRecDepth 100000
set_option maxHeartbeats 8000000
namespace Lw
open PySem PySem.Spec PyProof.Rows L2 Dv
def topS (i : Nat) : Stmt := PySem.Challenge.pw_livesalike_k01_tokens_up_to_the_end.main.body.getD i (.Pass ⟨0, 0, 0, 0⟩)

abbrev ir_number_of : Ir :=
(.cons (.set 2 false (.var 0)) (.cons (.ifs (.and (.var 1) (.and (.cmp .eq (.slc (.var 0) .nil (.cons (.int 1) .nil)) (.str "-")) (.cmp .ne (.var 0) (.str "-0"))))
(.cons (.set 2 false (.slc (.var 0) (.cons (.int 1) .nil) .nil)) .nil)
.nil) (.cons (.ifs (.or (.cmp .eq (.var 2) (.str "")) (.cmp .gt (.prim .len (.cons (.var 2) .nil)) (.int 9)))
(.cons (.ret (.non)) .nil)
.nil) (.cons (.fors (.var 3) (.cons (.var 2) .nil)
(.cons (.ifs (.cmp .nin (.var 3) (.glb 1))
(.cons (.ret (.non)) .nil)
.nil) .nil)) (.cons (.ifs (.and (.cmp .eq (.sub (.var 2) (.int 0)) (.str "0")) (.cmp .gt (.prim .len (.cons (.var 2) .nil)) (.int 1)))
(.cons (.ret (.non)) .nil)
.nil) (.cons (.ifs (.cmp .ne (.var 2) (.var 0))
(.cons (.ret (.neg (.prim .int (.cons (.var 2) .nil)))) .nil)
.nil) (.cons (.ret (.prim .int (.cons (.var 2) .nil))) .nil)))))))
abbrev ir_run_at : Ir :=
(.cons (.set 2 false (.var 1)) (.cons (.whl (.and (.cmp .lt (.var 2) (.prim .len (.cons (.var 0) .nil))) (.or (.cmp .isin (.sub (.var 0) (.var 2)) (.glb 0)) (.cmp .isin (.sub (.var 0) (.var 2)) (.glb 1))))
(.cons (.aug 2 true (.int 1)) .nil)) (.cons (.ret (.slc (.var 0) (.cons (.var 1) .nil) (.cons (.var 2) .nil))) .nil)))
abbrev ir_kind_of : Ir :=
(.cons (.ifs (.cmp .isin (.sub (.var 0) (.int 0)) (.glb 1))
(.cons (.ifs (.cmp .is (.call 0 (.cons (.var 0) .nil)) (.non))
(.cons (.ret (.str "bad")) .nil)
.nil) (.cons (.ret (.str "number")) .nil))
.nil) (.cons (.ifs (.cmp .isin (.var 0) (.glb 2))
(.cons (.ret (.str "keyword")) .nil)
.nil) (.cons (.ifs (.cmp .gt (.prim .len (.cons (.var 0) .nil)) (.glb 5))
(.cons (.ret (.str "bad")) .nil)
.nil) (.cons (.ret (.str "name")) .nil))))
abbrev ir_token_at : Ir :=
(.cons (.set 2 false (.call 1 (.cons (.var 0) (.cons (.var 1) .nil)))) (.cons (.ifs (.cmp .ne (.var 2) (.str ""))
(.cons (.ret (.tup (.cons (.call 2 (.cons (.var 2) .nil)) (.cons (.var 2) .nil)))) .nil)
.nil) (.cons (.ifs (.cmp .isin (.slc (.var 0) (.cons (.var 1) .nil) (.cons (.bin .add (.var 1) (.int 2)) .nil)) (.glb 3))
(.cons (.ret (.tup (.cons (.str "sign") (.cons (.slc (.var 0) (.cons (.var 1) .nil) (.cons (.bin .add (.var 1) (.int 2)) .nil)) .nil)))) .nil)
.nil) (.cons (.ifs (.cmp .isin (.sub (.var 0) (.var 1)) (.glb 4))
(.cons (.ret (.tup (.cons (.str "sign") (.cons (.sub (.var 0) (.var 1)) .nil)))) .nil)
.nil) (.cons (.ret (.tup (.cons (.str "bad") (.cons (.sub (.var 0) (.var 1)) .nil)))) .nil)))))
abbrev ir_row_end : Ir :=
(.cons (.set 2 false (.meth .find (.var 0) (.cons (.str "\n") (.cons (.var 1) .nil)))) (.cons (.ifs (.cmp .lt (.var 2) (.int 0))
(.cons (.ret (.prim .len (.cons (.var 0) .nil))) .nil)
.nil) (.cons (.ret (.var 2)) .nil)))
abbrev ir_token_list : Ir :=
(.cons (.set 1 true (.lst .nil)) (.cons (.set 2 false (.int 1)) (.cons (.set 3 false (.int 0)) (.cons (.set 4 false (.int 0)) (.cons (.whl (.cmp .lt (.var 4) (.prim .len (.cons (.var 0) .nil)))
(.cons (.ifs (.cmp .eq (.sub (.var 0) (.var 4)) (.str "\n"))
(.cons (.aug 2 true (.int 1)) (.cons (.aug 4 true (.int 1)) (.cons (.set 3 false (.var 4)) .nil)))
(.cons (.ifs (.cmp .eq (.sub (.var 0) (.var 4)) (.str " "))
(.cons (.aug 4 true (.int 1)) .nil)
(.cons (.ifs (.cmp .eq (.sub (.var 0) (.var 4)) (.str "#"))
(.cons (.set 4 false (.call 4 (.cons (.var 0) (.cons (.var 4) .nil)))) .nil)
(.cons (.unp (.tup (.cons (.var 5) (.cons (.var 6) .nil))) (.call 3 (.cons (.var 0) (.cons (.var 4) .nil)))) (.cons (.ex (.app 1 (.tup (.cons (.var 5) (.cons (.var 6) (.cons (.var 2) (.cons (.bin .add (.bin .sub (.var 4) (.var 3)) (.int 1)) .nil))))))) (.cons (.ifs (.cmp .eq (.var 5) (.str "bad"))
(.cons (.ret (.var 1)) .nil)
.nil) (.cons (.aug 4 true (.prim .len (.cons (.var 6) .nil))) .nil))))) .nil)) .nil)) .nil)) (.cons (.ex (.app 1 (.tup (.cons (.str "end") (.cons (.str "") (.cons (.var 2) (.cons (.bin .add (.bin .sub (.var 4) (.var 3)) (.int 1)) .nil))))))) (.cons (.ret (.var 1)) .nil)))))))
abbrev ir__law_cell : Ir :=
(.cons (.ifs (.cmp .lt (.var 1) (.prim .len (.cons (.var 0) .nil)))
(.cons (.ret (.sub (.var 0) (.var 1))) .nil)
.nil) (.cons (.ret (.int 0)) .nil))
abbrev ir__law_draws : Ir :=
(.cons (.set 2 true (.lst .nil)) (.cons (.set 3 false (.prim .abs (.cons (.var 0) .nil))) (.cons (.set 4 false (.cmp .ge (.var 3) (.bin .pow (.int 10) (.int 18)))) (.cons (.fors (.var 5) (.rng1 (.var 1))
(.cons (.ifs (.and (.var 4) (.cmp .gt (.var 3) (.int 0)))
(.cons (.ex (.app 2 (.bin .mod (.prim .int (.cons (.var 3) .nil)) (.int 1000)))) (.cons (.set 3 false (.bin .div (.var 3) (.int 1000))) .nil))
(.cons (.set 6 false (.bin .mod (.prim .int (.cons (.bin .add (.bin .add (.prim .abs (.cons (.var 0) .nil)) (.bin .mul (.int 7919) (.var 5))) (.int 13)) .nil)) (.int 2147483647))) (.cons (.set 6 false (.bin .mod (.prim .int (.cons (.bin .mul (.var 6) (.bin .add (.var 6) (.int 48271))) .nil)) (.int 2147483629))) (.cons (.set 6 false (.bin .mod (.prim .int (.cons (.bin .add (.bin .mul (.var 6) (.bin .add (.var 6) (.int 69621))) (.bin .mul (.int 31) (.var 5))) .nil)) (.int 2147483647))) (.cons (.ex (.app 2 (.bin .mod (.prim .int (.cons (.bin .div (.var 6) (.int 9)) .nil)) (.int 1000)))) .nil))))) .nil)) (.cons (.ret (.var 2)) .nil)))))
abbrev ir__law_is_integer : Ir :=
(.cons (.ret (.and (.isi [.int] (.var 0)) (.not (.isi [.bool] (.var 0))))) .nil)
abbrev ir__law_keywords : Ir :=
(.cons (.ret (.lst (.cons (.str "cell") (.cons (.str "line") (.cons (.str "store") (.cons (.str "gate") (.cons (.str "wheel") (.cons (.str "mark") (.cons (.str "class") (.cons (.str "within") (.cons (.str "var") (.cons (.str "deed") (.cons (.str "life") (.cons (.str "start") (.cons (.str "at") (.cons (.str "asleep") (.cons (.str "open") (.cons (.str "shut") (.cons (.str "set") (.cons (.str "tell") (.cons (.str "if") (.cons (.str "else") (.cons (.str "while") (.cons (.str "do") (.cons (.str "inner") (.cons (.str "hold") (.cons (.str "sleep") (.cons (.str "wake") (.cons (.str "after") (.cons (.str "stop") (.cons (.str "seize") (.cons (.str "of") (.cons (.str "free") (.cons (.str "wait") (.cons (.str "put") (.cons (.str "into") (.cons (.str "take") (.cons (.str "from") (.cons (.str "make") (.cons (.str "leave") (.cons (.str "or") (.cons (.str "and") (.cons (.str "not") (.cons (.str "mod") (.cons (.str "none") (.cons (.str "me") (.cons (.str "now") (.cons (.str "length") (.cons (.str "first") (.cons (.str "spare") (.cons (.str "waiting") (.cons (.str "isopen") (.cons (.str "stand") .nil))))))))))))))))))))))))))))))))))))))))))))))))))))) .nil)
abbrev ir__law_run : Ir :=
(.cons (.set 3 false (.str "abcdefghijklmnopqrstuvwxyz0123456789")) (.cons (.ret (.meth .join (.str "") (.cons (.comp (.var 4) (.rng1 (.var 2)) (.bl true) (.sub (.var 3) (.bin .mod (.prim .int (.cons (.sub (.var 0) (.bin .add (.var 1) (.var 4))) .nil)) (.sub (.lst (.cons (.int 36) (.cons (.int 26) .nil))) (.prim .int (.cons (.cmp .eq (.var 4) (.int 0)) .nil))))) [4]) .nil))) .nil))
abbrev ir__law_number : Ir :=
(.cons (.set 2 false (.lst (.cons (.int 1) (.cons (.int 10) (.cons (.int 100) (.cons (.int 1000) (.cons (.int 10000) (.cons (.int 100000) (.cons (.int 1000000) (.cons (.int 10000000) (.cons (.int 100000000) .nil))))))))))) (.cons (.set 3 false (.bin .add (.bin .add (.bin .mul (.prim .int (.cons (.sub (.var 0) (.var 1)) .nil)) (.int 1000000)) (.bin .mul (.prim .int (.cons (.sub (.var 0) (.bin .add (.var 1) (.int 1))) .nil)) (.int 1000))) (.prim .int (.cons (.sub (.var 0) (.bin .add (.var 1) (.int 2))) .nil)))) (.cons (.set 4 false (.bin .mod (.prim .int (.cons (.sub (.var 0) (.bin .add (.var 1) (.int 2))) .nil)) (.int 12))) (.cons (.ifs (.cmp .lt (.var 4) (.int 3))
(.cons (.ret (.sub (.lst (.cons (.str "0") (.cons (.str "999999999") (.cons (.str "100000000") .nil)))) (.var 4))) .nil)
.nil) (.cons (.ret (.prim .str (.cons (.bin .div (.var 3) (.sub (.var 2) (.bin .mod (.prim .int (.cons (.sub (.var 0) (.bin .add (.var 1) (.int 1))) .nil)) (.int 9)))) .nil))) .nil)))))
abbrev ir__law_word : Ir :=
(.cons (.set 4 false (.lst (.cons (.str "{") (.cons (.str "}") (.cons (.str "(") (.cons (.str ")") (.cons (.str ",") (.cons (.str ";") (.cons (.str ".") (.cons (.str "+") (.cons (.str "-") (.cons (.str "*") (.cons (.str "/") (.cons (.str "=") (.cons (.str "==") (.cons (.str "!=") (.cons (.str "<") (.cons (.str "<=") (.cons (.str ">") (.cons (.str ">=") .nil)))))))))))))))))))) (.cons (.set 5 false (.bin .mod (.prim .int (.cons (.sub (.var 0) (.var 1)) .nil)) (.int 6))) (.cons (.set 6 false (.prim .int (.cons (.sub (.var 0) (.bin .add (.var 1) (.int 1))) .nil))) (.cons (.ifs (.cmp .eq (.var 5) (.int 0))
(.cons (.ret (.sub (.call 9 .nil) (.bin .mod (.prim .int (.cons (.var 6) .nil)) (.int 51)))) .nil)
.nil) (.cons (.ifs (.cmp .lt (.var 5) (.int 3))
(.cons (.ret (.sub (.var 4) (.bin .mod (.prim .int (.cons (.var 6) .nil)) (.int 18)))) .nil)
.nil) (.cons (.ifs (.cmp .eq (.var 5) (.int 3))
(.cons (.ret (.call 11 (.cons (.var 0) (.cons (.bin .add (.var 1) (.int 1)) .nil)))) .nil)
.nil) (.cons (.ifs (.cmp .eq (.var 5) (.int 4))
(.cons (.set 7 false (.sub (.lst (.cons (.prim .str (.cons (.bin .mod (.prim .int (.cons (.sub (.var 0) (.bin .add (.var 1) (.int 2))) .nil)) (.int 10)) .nil)) (.cons (.call 10 (.cons (.var 2) (.cons (.var 3) (.cons (.int 12) .nil)))) .nil))) (.bin .mod (.prim .int (.cons (.sub (.var 0) (.bin .add (.var 1) (.int 3))) .nil)) (.int 2)))) (.cons (.ret (.slc (.bin .add (.sub (.call 9 .nil) (.bin .mod (.prim .int (.cons (.var 6) .nil)) (.int 51))) (.var 7)) .nil (.cons (.int 12) .nil))) .nil))
.nil) (.cons (.ret (.call 10 (.cons (.var 2) (.cons (.var 3) (.cons (.bin .add (.int 1) (.bin .mod (.prim .int (.cons (.var 6) .nil)) (.int 12))) .nil))))) .nil))))))))
abbrev ir__law_kind : Ir :=
(.cons (.ifs (.cmp .isin (.sub (.var 0) (.int 0)) (.str "0123456789"))
(.cons (.ret (.str "number")) .nil)
.nil) (.cons (.ifs (.cmp .isin (.var 0) (.call 9 .nil))
(.cons (.ret (.str "keyword")) .nil)
.nil) (.cons (.ifs (.cmp .isin (.sub (.var 0) (.int 0)) (.str "abcdefghijklmnopqrstuvwxyz"))
(.cons (.ret (.str "name")) .nil)
.nil) (.cons (.ret (.str "sign")) .nil))))
abbrev ir__law_remark : Ir :=
(.cons (.set 2 false (.str " !\"#$&'()*+,-./0123456789:;<=>?@ABCDEFGHIJKLMNOPQRSTUVWXYZ[\\]^_`abcdefghijklmnopqrstuvwxyz{|}~\t")) (.cons (.ret (.bin .add (.str "#") (.meth .join (.str "") (.cons (.comp (.var 3) (.rng1 (.bin .mod (.prim .int (.cons (.sub (.var 0) (.bin .add (.var 1) (.int 6))) .nil)) (.int 7))) (.bl true) (.sub (.var 2) (.bin .mod (.prim .int (.cons (.sub (.var 0) (.bin .add (.var 1) (.var 3))) .nil)) (.int 95))) [3]) .nil)))) .nil))
abbrev ir__law_touch : Ir :=
(.cons (.set 2 false (.str "abcdefghijklmnopqrstuvwxyz0123456789")) (.cons (.ifs (.cmp .eq (.var 0) (.str ""))
(.cons (.ret (.bl false)) .nil)
.nil) (.cons (.ifs (.and (.cmp .isin (.sub (.var 0) (.bin .sub (.prim .len (.cons (.var 0) .nil)) (.int 1))) (.var 2)) (.cmp .isin (.sub (.var 1) (.int 0)) (.var 2)))
(.cons (.ret (.bl true)) .nil)
.nil) (.cons (.ret (.and (.cmp .isin (.var 0) (.lst (.cons (.str "=") (.cons (.str "<") (.cons (.str ">") .nil))))) (.cmp .eq (.sub (.var 1) (.int 0)) (.str "=")))) .nil))))
abbrev ir__law_moved : Ir :=
(.cons (.set 2 false (.meth .split (.var 1) (.cons (.str "\n") .nil))) (.cons (.ifs (.cmp .eq (.prim .len (.cons (.var 2) .nil)) (.int 1))
(.cons (.ret (.lst (.cons (.sub (.var 0) (.int 0)) (.cons (.bin .add (.sub (.var 0) (.int 1)) (.prim .len (.cons (.var 1) .nil))) .nil)))) .nil)
.nil) (.cons (.ret (.lst (.cons (.bin .sub (.bin .add (.sub (.var 0) (.int 0)) (.prim .len (.cons (.var 2) .nil))) (.int 1)) (.cons (.bin .add (.int 1) (.prim .len (.cons (.sub (.var 2) (.bin .sub (.prim .len (.cons (.var 2) .nil)) (.int 1))) .nil))) .nil)))) .nil)))
abbrev ir__law_pieces : Ir :=
(.cons (.set 4 false (.call 7 (.cons (.call 6 (.cons (.var 0) (.cons (.var 1) .nil))) (.cons (.bin .mul (.int 4) (.var 2)) .nil)))) (.cons (.set 5 false (.call 7 (.cons (.call 6 (.cons (.var 0) (.cons (.bin .add (.var 1) (.int 1)) .nil))) (.cons (.bin .mul (.int 12) (.var 2)) .nil)))) (.cons (.set 6 false (.call 7 (.cons (.call 6 (.cons (.var 0) (.cons (.bin .add (.var 1) (.int 2)) .nil))) (.cons (.var 2) .nil)))) (.cons (.set 7 false (.call 7 (.cons (.call 6 (.cons (.var 0) (.cons (.bin .add (.var 1) (.int 3)) .nil))) (.cons (.bin .mul (.int 7) (.var 2)) .nil)))) (.cons (.set 8 true (.lst .nil)) (.cons (.fors (.var 9) (.rng1 (.var 2))
(.cons (.set 10 false (.call 14 (.cons (.var 7) (.cons (.bin .mul (.int 7) (.var 9)) .nil)))) (.cons (.set 11 false (.sub (.lst (.cons (.str "") (.cons (.str "") (.cons (.str "") (.cons (.str " ") (.cons (.str "  ") (.cons (.str "\n") (.cons (.str "\n\n ") (.cons (.bin .add (.var 10) (.str "\n")) (.cons (.bin .add (.bin .add (.str " ") (.var 10)) (.str "\n  ")) (.cons (.str "#\n") .nil))))))))))) (.bin .mod (.prim .int (.cons (.sub (.var 6) (.var 9)) .nil)) (.int 10)))) (.cons (.ex (.app 8 (.tup (.cons (.var 11) (.cons (.call 12 (.cons (.var 4) (.cons (.bin .mul (.int 4) (.var 9)) (.cons (.var 5) (.cons (.bin .mul (.int 12) (.var 9)) .nil))))) .nil))))) .nil)))) (.cons (.ifs (.or (.not (.var 3)) (.cmp .eq (.var 2) (.int 0)))
(.cons (.ret (.var 8)) .nil)
.nil) (.cons (.set 12 false (.prim .sum (.cons (.comp (.tup (.cons (.var 11) (.cons (.var 13) .nil))) (.cons (.var 8) .nil) (.bl true) (.bin .add (.bin .add (.prim .len (.cons (.var 11) .nil)) (.prim .len (.cons (.var 13) .nil))) (.int 1)) [11, 13]) .nil))) (.cons (.ret (.bin .mul (.var 8) (.prim .max (.cons (.int 1) (.cons (.prim .min (.cons (.bin .div (.int 450) (.var 2)) (.cons (.bin .div (.int 2900) (.var 12)) .nil))) .nil))))) .nil)))))))))
abbrev ir__law_text : Ir :=
(.cons (.set 2 true (.lst .nil)) (.cons (.set 3 true (.lst .nil)) (.cons (.set 4 false (.lst (.cons (.int 1) (.cons (.int 1) .nil)))) (.cons (.set 5 false (.str "")) (.cons (.fors (.tup (.cons (.var 6) (.cons (.var 7) .nil))) (.cons (.var 0) .nil)
(.cons (.set 8 false (.var 6)) (.cons (.ifs (.and (.cmp .eq (.var 6) (.str "")) (.call 15 (.cons (.var 5) (.cons (.var 7) .nil))))
(.cons (.set 8 false (.str " ")) .nil)
.nil) (.cons (.set 4 false (.call 16 (.cons (.var 4) (.cons (.var 8) .nil)))) (.cons (.ex (.app 3 (.tup (.cons (.call 13 (.cons (.var 7) .nil)) (.cons (.var 7) (.cons (.sub (.var 4) (.int 0)) (.cons (.sub (.var 4) (.int 1)) .nil))))))) (.cons (.set 4 false (.call 16 (.cons (.var 4) (.cons (.var 7) .nil)))) (.cons (.ex (.app 2 (.bin .add (.var 8) (.var 7)))) (.cons (.set 5 false (.var 7)) .nil)))))))) (.cons (.ret (.lst (.cons (.bin .add (.meth .join (.str "") (.cons (.var 2) .nil)) (.var 1)) (.cons (.var 3) (.cons (.call 16 (.cons (.var 4) (.cons (.var 1) .nil))) .nil))))) .nil))))))
abbrev ir__law_tail : Ir :=
(.cons (.ret (.sub (.lst (.cons (.str "") (.cons (.var 1) (.cons (.bin .add (.str " ") (.var 1)) (.cons (.str "\n") (.cons (.bin .add (.var 1) (.str "\n")) (.cons (.str "#") (.cons (.str "   ") (.cons (.str "\n\n\n") (.cons (.bin .add (.bin .add (.str " ") (.var 1)) (.str "\n ")) (.cons (.str " #") (.cons (.bin .add (.str "\n") (.var 1)) (.cons (.str " \n ") .nil))))))))))))) (.bin .mod (.prim .int (.cons (.var 0) .nil)) (.int 12)))) .nil)
abbrev ir__law_same : Ir :=
(.cons (.ifs (.or (.not (.isi [.list] (.var 0))) (.cmp .ne (.prim .len (.cons (.var 0) .nil)) (.prim .len (.cons (.var 1) .nil))))
(.cons (.ret (.bl false)) .nil)
.nil) (.cons (.fors (.var 2) (.rng1 (.prim .len (.cons (.var 1) .nil)))
(.cons (.set 3 false (.sub (.var 0) (.var 2))) (.cons (.ifs (.or (.not (.isi [.tuple] (.var 3))) (.cmp .ne (.var 3) (.sub (.var 1) (.var 2))))
(.cons (.ret (.bl false)) .nil)
.nil) (.cons (.ifs (.or (.not (.isi [.str] (.sub (.var 3) (.int 0)))) (.not (.isi [.str] (.sub (.var 3) (.int 1)))))
(.cons (.ret (.bl false)) .nil)
.nil) (.cons (.ifs (.or (.not (.call 8 (.cons (.sub (.var 3) (.int 2)) .nil))) (.not (.call 8 (.cons (.sub (.var 3) (.int 3)) .nil))))
(.cons (.ret (.bl false)) .nil)
.nil) .nil))))) (.cons (.ret (.bl true)) .nil)))
abbrev ir_law : Ir :=
(.cons (.set 1 false (.call 7 (.cons (.call 6 (.cons (.var 0) (.cons (.int 0) .nil))) (.cons (.int 20) .nil)))) (.cons (.set 2 false (.cmp .eq (.bin .mod (.prim .int (.cons (.sub (.var 1) (.int 0)) .nil)) (.int 16)) (.int 5))) (.cons (.set 3 false (.call 18 (.cons (.call 17 (.cons (.var 0) (.cons (.int 1) (.cons (.bin .mod (.prim .int (.cons (.sub (.var 1) (.int 1)) .nil)) (.int 31)) (.cons (.var 2) .nil))))) (.cons (.call 19 (.cons (.sub (.var 1) (.int 2)) (.cons (.call 14 (.cons (.var 1) (.cons (.int 5) .nil))) .nil))) .nil)))) (.cons (.set 4 false (.call 18 (.cons (.call 17 (.cons (.var 0) (.cons (.int 5) (.cons (.bin .mod (.prim .int (.cons (.sub (.var 1) (.int 3)) .nil)) (.int 31)) (.cons (.var 2) .nil))))) (.cons (.call 19 (.cons (.sub (.var 1) (.int 4)) (.cons (.call 14 (.cons (.var 1) (.cons (.int 12) .nil))) .nil))) .nil)))) (.cons (.set 5 false (.sub (.sub (.var 3) (.int 2)) (.int 0))) (.cons (.set 6 false (.bin .add (.sub (.var 3) (.int 1)) (.lst (.cons (.tup (.cons (.str "end") (.cons (.str "") (.cons (.sub (.sub (.var 3) (.int 2)) (.int 0)) (.cons (.sub (.sub (.var 3) (.int 2)) (.int 1)) .nil))))) .nil)))) (.cons (.set 7 false (.bin .add (.sub (.var 4) (.int 1)) (.lst (.cons (.tup (.cons (.str "end") (.cons (.str "") (.cons (.sub (.sub (.var 4) (.int 2)) (.int 0)) (.cons (.sub (.sub (.var 4) (.int 2)) (.int 1)) .nil))))) .nil)))) (.cons (.set 8 false (.bin .add (.sub (.var 3) (.int 1)) (.comp (.var 9) (.cons (.var 7) .nil) (.bl true) (.tup (.cons (.sub (.var 9) (.int 0)) (.cons (.sub (.var 9) (.int 1)) (.cons (.bin .add (.sub (.var 9) (.int 2)) (.var 5)) (.cons (.sub (.var 9) (.int 3)) .nil))))) [9]))) (.cons (.set 10 true (.call 5 (.cons (.sub (.var 3) (.int 0)) .nil))) (.cons (.ifs (.or (.not (.call 22 (.cons (.lend 10) (.cons (.var 6) .nil)))) (.not (.call 20 (.cons (.call 5 (.cons (.sub (.var 4) (.int 0)) .nil)) (.cons (.var 7) .nil)))))
(.cons (.ret (.bl false)) .nil)
.nil) (.cons (.ex (.clr 10)) (.cons (.ret (.and (.call 20 (.cons (.call 5 (.cons (.bin .add (.bin .add (.sub (.var 3) (.int 0)) (.str "\n")) (.sub (.var 4) (.int 0))) .nil)) (.cons (.var 8) .nil))) (.call 20 (.cons (.call 5 (.cons (.sub (.var 3) (.int 0)) .nil)) (.cons (.var 6) .nil))))) .nil))))))))))))
abbrev ir__law_same_lv : Ir :=
(.cons (.ifs (.or (.not (.isi [.list] (.var 0))) (.cmp .ne (.prim .len (.cons (.var 0) .nil)) (.prim .len (.cons (.var 1) .nil))))
(.cons (.ret (.bl false)) .nil)
.nil) (.cons (.fors (.var 2) (.rng1 (.prim .len (.cons (.var 1) .nil)))
(.cons (.set 3 false (.sub (.var 0) (.var 2))) (.cons (.ifs (.or (.not (.isi [.tuple] (.var 3))) (.cmp .ne (.var 3) (.sub (.var 1) (.var 2))))
(.cons (.ret (.bl false)) .nil)
.nil) (.cons (.ifs (.or (.not (.isi [.str] (.sub (.var 3) (.int 0)))) (.not (.isi [.str] (.sub (.var 3) (.int 1)))))
(.cons (.ret (.bl false)) .nil)
.nil) (.cons (.ifs (.or (.not (.call 8 (.cons (.sub (.var 3) (.int 2)) .nil))) (.not (.call 8 (.cons (.sub (.var 3) (.int 3)) .nil))))
(.cons (.ret (.bl false)) .nil)
.nil) .nil))))) (.cons (.ret (.bl true)) .nil)))
def blt : List Str := ["len", "int", "str", "abs", "tuple", "list", "max", "min", "sum", "range", "isinstance", "bool"]
def gls : List (Str × Nat) := [("SMALL", 0), ("DIGITS", 1), ("KEYWORDS", 2), ("LONG_SIGNS", 3), ("SHORT_SIGNS", 4), ("MOST_CHARACTERS", 5)]
def c_SMALL : PD := .str "abcdefghijklmnopqrstuvwxyz"
def c_DIGITS : PD := .str "0123456789"
def c_KEYWORDS : PD := .tuple [.str "cell", .str "line", .str "store", .str "gate", .str "wheel", .str "mark", .str "class", .str "within", .str "var", .str "deed", .str "life", .str "start", .str "at", .str "asleep", .str "open", .str "shut", .str "set", .str "tell", .str "if", .str "else", .str "while", .str "do", .str "inner", .str "hold", .str "sleep", .str "wake", .str "after", .str "stop", .str "seize", .str "of", .str "free", .str "wait", .str "put", .str "into", .str "take", .str "from", .str "make", .str "leave", .str "or", .str "and", .str "not", .str "mod", .str "none", .str "me", .str "now", .str "length", .str "first", .str "spare", .str "waiting", .str "isopen", .str "stand"]
def c_LONG_SIGNS : PD := .tuple [.str "==", .str "!=", .str "<=", .str ">="]
def c_SHORT_SIGNS : PD := .str "{}(),;.+-*/=<>"
def c_MOST_CHARACTERS : PD := .int 12
def glK : Nat → Option PD
  | 0 => some c_SMALL
  | 1 => some c_DIGITS
  | 2 => some c_KEYWORDS
  | 3 => some c_LONG_SIGNS
  | 4 => some c_SHORT_SIGNS
  | 5 => some c_MOST_CHARACTERS
  | _ => none
def r_number_of : DefR := ⟨"number_of", "number_of", topS 3, ["word", "signed", "digits", "char"], ["word", "signed"], [], [false], ir_number_of, [.bool false]⟩
def r_run_at : DefR := ⟨"run_at", "run_at", topS 9, ["text", "at", "behind"], ["text", "at"], [], [false, false], ir_run_at, []⟩
def r_kind_of : DefR := ⟨"kind_of", "kind_of", topS 10, ["run"], ["run"], [], [false], ir_kind_of, []⟩
def r_token_at : DefR := ⟨"token_at", "token_at", topS 11, ["text", "at", "run"], ["text", "at"], [], [false, false], ir_token_at, []⟩
def r_row_end : DefR := ⟨"row_end", "row_end", topS 12, ["text", "at", "found"], ["text", "at"], [], [false, false], ir_row_end, []⟩
def r_token_list : DefR := ⟨"token_list", "token_list", topS 13, ["text", "tokens", "row", "row_begin", "at", "kind", "word"], ["text"], [1], [false], ir_token_list, []⟩
def r__law_cell : DefR := ⟨"_law_cell", "_law_cell", topS 15, ["script", "k"], ["script", "k"], [], [false, false], ir__law_cell, []⟩
def r__law_draws : DefR := ⟨"_law_draws", "_law_draws", topS 16, ["cell", "many", "drawn", "rest", "digits", "k", "mixed"], ["cell", "many"], [2], [false, false], ir__law_draws, []⟩
def r__law_is_integer : DefR := ⟨"_law_is_integer", "_law_is_integer", topS 17, ["value"], ["value"], [], [false], ir__law_is_integer, []⟩
def r__law_keywords : DefR := ⟨"_law_keywords", "_law_keywords", topS 18, [], [], [], [], ir__law_keywords, []⟩
def r__law_run : DefR := ⟨"_law_run", "_law_run", topS 19, ["letters", "at", "many", "small", "k"], ["letters", "at", "many"], [], [false, false, false], ir__law_run, []⟩
def r__law_number : DefR := ⟨"_law_number", "_law_number", topS 20, ["draws", "at", "powers", "number", "pick"], ["draws", "at"], [], [false, false], ir__law_number, []⟩
def r__law_word : DefR := ⟨"_law_word", "_law_word", topS 21, ["draws", "at", "letters", "begin", "signs", "kind", "pick", "behind"], ["draws", "at", "letters", "begin"], [], [false, false, false, false], ir__law_word, []⟩
def r__law_kind : DefR := ⟨"_law_kind", "_law_kind", topS 22, ["word"], ["word"], [], [false], ir__law_kind, []⟩
def r__law_remark : DefR := ⟨"_law_remark", "_law_remark", topS 23, ["letters", "at", "chars", "k"], ["letters", "at"], [], [false, false], ir__law_remark, []⟩
def r__law_touch : DefR := ⟨"_law_touch", "_law_touch", topS 24, ["before", "word", "runs"], ["before", "word"], [], [false, false], ir__law_touch, []⟩
def r__law_moved : DefR := ⟨"_law_moved", "_law_moved", topS 25, ["place", "text", "parts"], ["place", "text"], [], [false, false], ir__law_moved, []⟩
def r__law_pieces : DefR := ⟨"_law_pieces", "_law_pieces", topS 26, ["script", "at", "many", "long", "words", "letters", "gaps", "remarks", "pieces", "k", "remark", "gap", "size", "word"], ["script", "at", "many", "long"], [8], [false, false, false, false], ir__law_pieces, []⟩
def r__law_text : DefR := ⟨"_law_text", "_law_text", topS 27, ["pieces", "tail", "parts", "tokens", "place", "before", "gap", "word", "space"], ["pieces", "tail"], [2, 3], [false, false], ir__law_text, []⟩
def r__law_tail : DefR := ⟨"_law_tail", "_law_tail", topS 28, ["draw", "remark"], ["draw", "remark"], [], [false, false], ir__law_tail, []⟩
def r__law_same : DefR := ⟨"_law_same", "_law_same", topS 29, ["actual", "due", "k", "token"], ["actual", "due"], [], [false, false], ir__law_same, []⟩
def r_law : DefR := ⟨"law", "law", topS 30, ["script", "heads", "long", "one", "two", "rows", "due", "other", "joined", "token", "actual"], ["script"], [10], [false], ir_law, []⟩
def r__law_same_lv : DefR := ⟨"_law_same", "_law_same", topS 29, ["actual", "due", "k", "token"], ["actual", "due"], [0], [true, false], ir__law_same_lv, []⟩
def rs : List DefR := [r_number_of, r_run_at, r_kind_of, r_token_at, r_row_end, r_token_list, r__law_cell, r__law_draws, r__law_is_integer, r__law_keywords, r__law_run, r__law_number, r__law_word, r__law_kind, r__law_remark, r__law_touch, r__law_moved, r__law_pieces, r__law_text, r__law_tail, r__law_same, r_law, r__law_same_lv]
theorem ok_number_of : DefOk rs gls blt r_number_of := ⟨⟨rfl, rfl, rfl, by decide +kernel, rfl, by decide +kernel, by decide +kernel⟩, rfl, by decide +kernel⟩
theorem ok_run_at : DefOk rs gls blt r_run_at := ⟨⟨rfl, rfl, rfl, by decide +kernel, rfl, by decide +kernel, by decide +kernel⟩, rfl, by decide +kernel⟩
theorem ok_kind_of : DefOk rs gls blt r_kind_of := ⟨⟨rfl, rfl, rfl, by decide +kernel, rfl, by decide +kernel, by decide +kernel⟩, rfl, by decide +kernel⟩
theorem ok_token_at : DefOk rs gls blt r_token_at := ⟨⟨rfl, rfl, rfl, by decide +kernel, rfl, by decide +kernel, by decide +kernel⟩, rfl, by decide +kernel⟩
theorem ok_row_end : DefOk rs gls blt r_row_end := ⟨⟨rfl, rfl, rfl, by decide +kernel, rfl, by decide +kernel, by decide +kernel⟩, rfl, by decide +kernel⟩
theorem ok_token_list : DefOk rs gls blt r_token_list := ⟨⟨rfl, rfl, rfl, by decide +kernel, rfl, by decide +kernel, by decide +kernel⟩, rfl, by decide +kernel⟩
theorem ok__law_cell : DefOk rs gls blt r__law_cell := ⟨⟨rfl, rfl, rfl, by decide +kernel, rfl, by decide +kernel, by decide +kernel⟩, rfl, by decide +kernel⟩
theorem ok__law_draws : DefOk rs gls blt r__law_draws := ⟨⟨rfl, rfl, rfl, by decide +kernel, rfl, by decide +kernel, by decide +kernel⟩, rfl, by decide +kernel⟩
theorem ok__law_is_integer : DefOk rs gls blt r__law_is_integer := ⟨⟨rfl, rfl, rfl, by decide +kernel, rfl, by decide +kernel, by decide +kernel⟩, rfl, by decide +kernel⟩
theorem ok__law_keywords : DefOk rs gls blt r__law_keywords := ⟨⟨rfl, rfl, rfl, by decide +kernel, rfl, by decide +kernel, by decide +kernel⟩, rfl, by decide +kernel⟩
theorem ok__law_run : DefOk rs gls blt r__law_run := ⟨⟨rfl, rfl, rfl, by decide +kernel, rfl, by decide +kernel, by decide +kernel⟩, rfl, by decide +kernel⟩
theorem ok__law_number : DefOk rs gls blt r__law_number := ⟨⟨rfl, rfl, rfl, by decide +kernel, rfl, by decide +kernel, by decide +kernel⟩, rfl, by decide +kernel⟩
theorem ok__law_word : DefOk rs gls blt r__law_word := ⟨⟨rfl, rfl, rfl, by decide +kernel, rfl, by decide +kernel, by decide +kernel⟩, rfl, by decide +kernel⟩
theorem ok__law_kind : DefOk rs gls blt r__law_kind := ⟨⟨rfl, rfl, rfl, by decide +kernel, rfl, by decide +kernel, by decide +kernel⟩, rfl, by decide +kernel⟩
theorem ok__law_remark : DefOk rs gls blt r__law_remark := ⟨⟨rfl, rfl, rfl, by decide +kernel, rfl, by decide +kernel, by decide +kernel⟩, rfl, by decide +kernel⟩
theorem ok__law_touch : DefOk rs gls blt r__law_touch := ⟨⟨rfl, rfl, rfl, by decide +kernel, rfl, by decide +kernel, by decide +kernel⟩, rfl, by decide +kernel⟩
theorem ok__law_moved : DefOk rs gls blt r__law_moved := ⟨⟨rfl, rfl, rfl, by decide +kernel, rfl, by decide +kernel, by decide +kernel⟩, rfl, by decide +kernel⟩
theorem ok__law_pieces : DefOk rs gls blt r__law_pieces := ⟨⟨rfl, rfl, rfl, by decide +kernel, rfl, by decide +kernel, by decide +kernel⟩, rfl, by decide +kernel⟩
theorem ok__law_text : DefOk rs gls blt r__law_text := ⟨⟨rfl, rfl, rfl, by decide +kernel, rfl, by decide +kernel, by decide +kernel⟩, rfl, by decide +kernel⟩
theorem ok__law_tail : DefOk rs gls blt r__law_tail := ⟨⟨rfl, rfl, rfl, by decide +kernel, rfl, by decide +kernel, by decide +kernel⟩, rfl, by decide +kernel⟩
theorem ok__law_same : DefOk rs gls blt r__law_same := ⟨⟨rfl, rfl, rfl, by decide +kernel, rfl, by decide +kernel, by decide +kernel⟩, rfl, by decide +kernel⟩
theorem ok_law : DefOk rs gls blt r_law := ⟨⟨rfl, rfl, rfl, by decide +kernel, rfl, by decide +kernel, by decide +kernel⟩, rfl, by decide +kernel⟩
theorem ok__law_same_lv : DefOk rs gls blt r__law_same_lv := ⟨⟨rfl, rfl, rfl, by decide +kernel, rfl, by decide +kernel, by decide +kernel⟩, rfl, by decide +kernel⟩
end Lw

set_option Elab.async false
set_option linter.all false
set_option maxRecDepth 100000
set_option maxHeartbeats 4000000
/-! what the laws share: cells, draws, ranges -/
namespace Lc
open PySem PySem.Spec PyProof.Rows L2 Dv
theorem slv : sizeLine = 16777216 := id rfl
def iN (n : Nat) : PD := .int n
theorem eqD_refl : ∀ {d : PD}, SeqAt.shaped d = true → eqD d d = some true
  | .none, _ => rfl
  | .bool b, _ => by simp [eqD]
  | .int i, _ => by simp [eqD]
  | .str x, _ => by simp [eqD]
  | .list xs, h => by
    simp only [eqD, h, and_self, if_true, SeqAt.eqv_refl _ (SeqAt.canLay_of_shaped h)]
  | .tuple xs, h => by
    simp only [eqD, h, and_self, if_true, SeqAt.eqv_refl _ (SeqAt.canLay_of_shaped h)]
  | .dict _, h => by simp [SeqAt.shaped, PyData.canLay0] at h
theorem eqD_str (s : Str) : eqD (.str s) (.str s) = some true := by simp [eqD]
theorem at0 {α : Type} (a : α) (r : List α) : atI (a :: r) 0 = some a := by
  unfold atI ixN
  rw [if_pos (by omega), if_pos (by simp only [List.length_cons]; omega)]
  rfl
theorem atN {α : Type} {xs : List α} {i : Nat} {x : α} (h : xs[i]? = some x) : atI xs (i : Int) = some x := by
  have hl : i < xs.length := (List.getElem?_eq_some_iff.mp h).1
  unfold atI ixN
  rw [if_pos (by omega), if_pos (by omega), Option.bind_some, Int.toNat_natCast, h]
theorem lastL {α : Type} (X : List α) (y : α) : (X ++ [y])[(X ++ [y]).length - 1]? = some y := by
  simp
theorem dropL {α : Type} (X : List α) (y : α) : (X ++ [y]).dropLast = X := by simp
theorem beqF {i j : Int} (h : i ≠ j) : (i == j) = false := by simpa using h
theorem beqT {i j : Int} (h : i = j) : (i == j) = true := by simpa using h
theorem rngD0 {n : Nat} (h : n ≤ 100000) : rngD 0 (n : Int) = some ((List.range n).map fun (k : Nat) => PyData.int (k : Int)) := by
  have p : (2 : Int) ^ 62 = 4611686018427387904 := by decide +kernel
  unfold rngD
  rw [p, if_pos (by omega)]
  congr 1
  rw [show ((n : Int) - 0).toNat = n by omega]
  refine List.map_congr_left fun k _ => ?_
  rw [Int.zero_add]
def rgK (o : Option (List PD)) (ρ : DEn) : Option (List PD × DEn) := match o with
  | some ds => some (ds, ρ)
  | none => none
theorem eI_rngK (C : Cfg) (m : Bool) (a : Ir) (ρ : DEn) : evI C m (.rng1 a) ρ = (match evX C a ρ with | some (.val (.int j), ρ1) => rgK (rngD 0 j) ρ1 | _ => none) := rfl
theorem eI_rngN {C : Cfg} {m : Bool} {a : Ir} {ρ ρ1 : DEn} {n : Nat} (h : evX C a ρ = some (.val (.int (n : Int)), ρ1)) (hn : n ≤ 100000) : evI C m (.rng1 a) ρ = some ((List.range n).map (fun (k : Nat) => PyData.int (k : Int)), ρ1) := by
  have r := rngD0 hn
  rw [eI_rngK, h]
  dsimp only
  generalize rngD 0 (n : Int) = R at *
  rw [r]
  rfl
def iI (k : Nat) : PD := .int (k : Int)
abbrev ir__law_cell : Ir :=
(.cons (.ifs (.cmp .lt (.var 1) (.prim .len (.cons (.var 0) .nil)))
(.cons (.ret (.sub (.var 0) (.var 1))) .nil)
.nil) (.cons (.ret (.int 0)) .nil))
abbrev ir__law_draws : Ir :=
(.cons (.set 2 true (.lst .nil)) (.cons (.set 3 false (.prim .abs (.cons (.var 0) .nil))) (.cons (.set 4 false (.cmp .ge (.var 3) (.bin .pow (.int 10) (.int 18)))) (.cons (.fors (.var 5) (.rng1 (.var 1))
(.cons (.ifs (.and (.var 4) (.cmp .gt (.var 3) (.int 0)))
(.cons (.ex (.app 2 (.bin .mod (.prim .int (.cons (.var 3) .nil)) (.int 1000)))) (.cons (.set 3 false (.bin .div (.var 3) (.int 1000))) .nil))
(.cons (.set 6 false (.bin .mod (.prim .int (.cons (.bin .add (.bin .add (.prim .abs (.cons (.var 0) .nil)) (.bin .mul (.int 7919) (.var 5))) (.int 13)) .nil)) (.int 2147483647))) (.cons (.set 6 false (.bin .mod (.prim .int (.cons (.bin .mul (.var 6) (.bin .add (.var 6) (.int 48271))) .nil)) (.int 2147483629))) (.cons (.set 6 false (.bin .mod (.prim .int (.cons (.bin .add (.bin .mul (.var 6) (.bin .add (.var 6) (.int 69621))) (.bin .mul (.int 31) (.var 5))) .nil)) (.int 2147483647))) (.cons (.ex (.app 2 (.bin .mod (.prim .int (.cons (.bin .div (.var 6) (.int 9)) .nil)) (.int 1000)))) .nil))))) .nil)) (.cons (.ret (.var 2)) .nil)))))
theorem cell_run (C : Cfg) (ns : List Int) (i : Nat) : ∃ c : Int, runF C 2 2 ir__law_cell [.val (.list (ns.map PyData.int)), .val (.int (i : Int))] = some (.val (.int c), [.un, .un]) := by
  by_cases h : i < ns.length
  · have e : atI (ns.map PyData.int) (i : Int) = some (.int ns[i]) := atN (by rw [List.getElem?_map, List.getElem?_eq_getElem h]; rfl)
    have h' : (i : Int) < (ns.length : Int) := by omega
    exact ⟨ns[i], by simp only [EV0, EV1, List.nodup_nil, List.nodup_cons, List.not_mem_nil, List.mem_cons, or_false, Nat.sub_self, Nat.add_one_sub_one, Nat.zero_lt_succ, if_true, if_false, eq_self_iff_true, reduceIte, reduceCtorEq, Nat.zero_le, slv, not_false_eq_true, and_self, and_true, true_and, Bool.not_true, Bool.not_false, beq_self_eq_true, Nat.reduceAdd, Nat.reduceLT, Nat.reduceLeDiff, Nat.reduceSub, Nat.reduceEqDiff, Nat.reduceMul, Int.reduceAdd, Int.reduceLT, Int.reduceLE, Int.reduceNeg, Int.reduceEq, Int.reduceSub, decide_true, decide_false, decide_eq_true_eq, cond_true, cond_false, Int.reducePow, prD, copD, subD, List.length_map, h', e]⟩
  · have h' : ¬ ((i : Int) < (ns.length : Int)) := by omega
    exact ⟨0, by simp only [EV0, EV1, List.nodup_nil, List.nodup_cons, List.not_mem_nil, List.mem_cons, or_false, Nat.sub_self, Nat.add_one_sub_one, Nat.zero_lt_succ, if_true, if_false, eq_self_iff_true, reduceIte, reduceCtorEq, Nat.zero_le, slv, not_false_eq_true, and_self, and_true, true_and, Bool.not_true, Bool.not_false, beq_self_eq_true, Nat.reduceAdd, Nat.reduceLT, Nat.reduceLeDiff, Nat.reduceSub, Nat.reduceEqDiff, Nat.reduceMul, Int.reduceAdd, Int.reduceLT, Int.reduceLE, Int.reduceNeg, Int.reduceEq, Int.reduceSub, decide_true, decide_false, decide_eq_true_eq, cond_true, cond_false, Int.reducePow, prD, copD, subD, List.length_map, h']⟩
theorem md (x : Int) : x % 1000 = (((x % 1000).toNat : Nat) : Int) := by omega
theorem md_lt (x : Int) : (x % 1000).toNat < 1000 := by omega
theorem prI (i : Int) : prD .int [.int i] = some (.val (.int i)) := rfl
theorem draws_loop (C : Cfg) (cell A : Int) (dg : Bool) (hA : prD .abs [.int cell] = some (.val (.int A))) (many : Slo) : ∀ (ks : List Int) (acc : List PD) (rest : Int) (s5 s6 : Slo), acc.length + ks.length ≤ 100000 →
    ∃ (ds : List Nat) (rest' : Int) (t5 t6 : Slo), ds.length = ks.length ∧ (∀ d ∈ ds, d < 1000) ∧
      lpS C (.var 5) (.cons (.ifs (.and (.var 4) (.cmp .gt (.var 3) (.int 0))) (.cons (.ex (.app 2 (.bin .mod (.prim .int (.cons (.var 3) .nil)) (.int 1000)))) (.cons (.set 3 false (.bin .div (.var 3) (.int 1000))) .nil)) (.cons (.set 6 false (.bin .mod (.prim .int (.cons (.bin .add (.bin .add (.prim .abs (.cons (.var 0) .nil)) (.bin .mul (.int 7919) (.var 5))) (.int 13)) .nil)) (.int 2147483647))) (.cons (.set 6 false (.bin .mod (.prim .int (.cons (.bin .mul (.var 6) (.bin .add (.var 6) (.int 48271))) .nil)) (.int 2147483629))) (.cons (.set 6 false (.bin .mod (.prim .int (.cons (.bin .add (.bin .mul (.var 6) (.bin .add (.var 6) (.int 69621))) (.bin .mul (.int 31) (.var 5))) .nil)) (.int 2147483647))) (.cons (.ex (.app 2 (.bin .mod (.prim .int (.cons (.bin .div (.var 6) (.int 9)) .nil)) (.int 1000)))) .nil))))) .nil) (ks.map PyData.int) [.val (.int cell), many, .own none acc, .val (.int rest), .val (.bool dg), s5, s6] = some (.nx [.val (.int cell), many, .own none (acc ++ ds.map iN), .val (.int rest'), .val (.bool dg), t5, t6])
  | [], acc, rest, s5, s6, _ => ⟨[], rest, s5, s6, rfl, (fun d h => by cases h), by simp only [List.map_nil, lpS_nil, List.append_nil]⟩
  | k :: ks, acc, rest, s5, s6, hl => by
    simp only [List.length_cons] at hl
    have l' : acc.length < 16777216 := by omega
    by_cases c : dg = true ∧ 0 < rest
    · obtain ⟨ds, r', t5, t6, h1, h2, e⟩ := draws_loop C cell A dg hA many ks (acc ++ [.int (rest % 1000)]) (rest / 1000) (.val (.int k)) s6 (by simp only [List.length_append, List.length_cons, List.length_nil]; omega)
      refine ⟨(rest % 1000).toNat :: ds, r', t5, t6, by simp [h1], fun d hd => ?_, ?_⟩
      · rcases List.mem_cons.mp hd with rfl | hd
        · exact md_lt rest
        · exact h2 d hd
      · obtain ⟨c1, c2⟩ := c
        subst c1
        rw [List.append_assoc] at e
        simp only [List.map_cons, EV0, EV1, List.nodup_nil, List.nodup_cons, List.not_mem_nil, List.mem_cons, or_false, Nat.sub_self, Nat.add_one_sub_one, Nat.zero_lt_succ, if_true, if_false, eq_self_iff_true, reduceIte, reduceCtorEq, Nat.zero_le, slv, not_false_eq_true, and_self, and_true, true_and, Bool.not_true, Bool.not_false, beq_self_eq_true, Nat.reduceAdd, Nat.reduceLT, Nat.reduceLeDiff, Nat.reduceSub, Nat.reduceEqDiff, Nat.reduceMul, Int.reduceAdd, Int.reduceLT, Int.reduceLE, Int.reduceNeg, Int.reduceEq, Int.reduceSub, decide_true, decide_false, decide_eq_true_eq, cond_true, cond_false, Int.reducePow, bopD, copD, prI, c2, l', e, iN, ← md]
    · have go : evX C (.and (.var 4) (.cmp .gt (.var 3) (.int 0))) [.val (.int cell), many, .own none acc, .val (.int rest), .val (.bool dg), .val (.int k), s6] = some (.val (.bool false), [.val (.int cell), many, .own none acc, .val (.int rest), .val (.bool dg), .val (.int k), s6]) := by
        cases dg with
        | false => simp only [EV0, EV1, List.nodup_nil, List.nodup_cons, List.not_mem_nil, List.mem_cons, or_false, Nat.sub_self, Nat.add_one_sub_one, Nat.zero_lt_succ, if_true, if_false, eq_self_iff_true, reduceIte, reduceCtorEq, Nat.zero_le, slv, not_false_eq_true, and_self, and_true, true_and, Bool.not_true, Bool.not_false, beq_self_eq_true, Nat.reduceAdd, Nat.reduceLT, Nat.reduceLeDiff, Nat.reduceSub, Nat.reduceEqDiff, Nat.reduceMul, Int.reduceAdd, Int.reduceLT, Int.reduceLE, Int.reduceNeg, Int.reduceEq, Int.reduceSub, decide_true, decide_false, decide_eq_true_eq, cond_true, cond_false, Int.reducePow, prD, copD]
        | true =>
          have c2 : ¬ (0 < rest) := fun z => c ⟨rfl, z⟩
          simp only [EV0, EV1, List.nodup_nil, List.nodup_cons, List.not_mem_nil, List.mem_cons, or_false, Nat.sub_self, Nat.add_one_sub_one, Nat.zero_lt_succ, if_true, if_false, eq_self_iff_true, reduceIte, reduceCtorEq, Nat.zero_le, slv, not_false_eq_true, and_self, and_true, true_and, Bool.not_true, Bool.not_false, beq_self_eq_true, Nat.reduceAdd, Nat.reduceLT, Nat.reduceLeDiff, Nat.reduceSub, Nat.reduceEqDiff, Nat.reduceMul, Int.reduceAdd, Int.reduceLT, Int.reduceLE, Int.reduceNeg, Int.reduceEq, Int.reduceSub, decide_true, decide_false, decide_eq_true_eq, cond_true, cond_false, Int.reducePow, prD, copD, c2]
      have b1 := Int.emod_nonneg (A + 7919 * k + 13) (show (2147483647 : Int) ≠ 0 by decide)
      have b2 := Int.emod_lt_of_pos (A + 7919 * k + 13) (show (0 : Int) < 2147483647 by decide)
      generalize hm1 : (A + 7919 * k + 13) % 2147483647 = m1 at b1 b2
      have b3 := Int.emod_nonneg (m1 * (m1 + 48271)) (show (2147483629 : Int) ≠ 0 by decide)
      have b4 := Int.emod_lt_of_pos (m1 * (m1 + 48271)) (show (0 : Int) < 2147483629 by decide)
      generalize hm2 : (m1 * (m1 + 48271)) % 2147483629 = m2 at b3 b4
      generalize hm3 : (m2 * (m2 + 69621) + 31 * k) % 2147483647 = m3
      have q1 : (-18446744073709551616 : Int) < m1 := by omega
      have q2 : m1 < (18446744073709551616 : Int) := by omega
      have q3 : (-18446744073709551616 : Int) < m2 := by omega
      have q4 : m2 < (18446744073709551616 : Int) := by omega
      obtain ⟨ds, r', t5, t6, h1, h2, e⟩ := draws_loop C cell A dg hA many ks (acc ++ [.int (m3 / 9 % 1000)]) rest (.val (.int k)) (.val (.int m3)) (by simp only [List.length_append, List.length_cons, List.length_nil]; omega)
      refine ⟨(m3 / 9 % 1000).toNat :: ds, r', t5, t6, by simp [h1], fun d hd => ?_, ?_⟩
      · rcases List.mem_cons.mp hd with rfl | hd
        · exact md_lt _
        · exact h2 d hd
      · rw [List.append_assoc] at e
        simp only [List.map_cons, EV0, EV1, List.nodup_nil, List.nodup_cons, List.not_mem_nil, List.mem_cons, or_false, Nat.sub_self, Nat.add_one_sub_one, Nat.zero_lt_succ, if_true, if_false, eq_self_iff_true, reduceIte, reduceCtorEq, Nat.zero_le, slv, not_false_eq_true, and_self, and_true, true_and, Bool.not_true, Bool.not_false, beq_self_eq_true, Nat.reduceAdd, Nat.reduceLT, Nat.reduceLeDiff, Nat.reduceSub, Nat.reduceEqDiff, Nat.reduceMul, Int.reduceAdd, Int.reduceLT, Int.reduceLE, Int.reduceNeg, Int.reduceEq, Int.reduceSub, decide_true, decide_false, decide_eq_true_eq, cond_true, cond_false, Int.reducePow, bopD, copD, prI, go, hA, hm1, q1, q2, hm2, q3, q4, hm3, l', e, iN, ← md, true_or]
theorem draws_run (C : Cfg) (cell : Int) (many : Nat) (hm : many ≤ 5000) : ∃ ds : List Nat, ds.length = many ∧ (∀ d ∈ ds, d < 1000) ∧ runF C 2 7 ir__law_draws [.val (.int cell), .val (.int (many : Int))] = some (.own none (ds.map iN), [.un, .un]) := by
  obtain ⟨A, hA⟩ : ∃ A, prD .abs [.int cell] = some (.val (.int A)) := ⟨_, rfl⟩
  have hp : bopD .pow (.int 10) (.int 18) = some (.val (.int 1000000000000000000)) := by
    simp only [bopD]
    rw [if_pos (by decide +kernel)]
    rfl
  obtain ⟨dg, hdg⟩ : ∃ dg, copD .ge (.int A) (.int 1000000000000000000) = some dg := ⟨_, rfl⟩
  have hr : evI C false (.rng1 (.var 1)) [.val (.int cell), .val (.int (many : Int)), .own none [], .val (.int A), .val (.bool dg), .un, .un] = some ((List.range many).map (fun (k : Nat) => PyData.int (k : Int)), [.val (.int cell), .val (.int (many : Int)), .own none [], .val (.int A), .val (.bool dg), .un, .un]) :=
    eI_rngN (by simp only [EV0, EV1, List.nodup_nil, List.nodup_cons, List.not_mem_nil, List.mem_cons, or_false, Nat.sub_self, Nat.add_one_sub_one, Nat.zero_lt_succ, if_true, if_false, eq_self_iff_true, reduceIte, reduceCtorEq, Nat.zero_le, slv, not_false_eq_true, and_self, and_true, true_and, Bool.not_true, Bool.not_false, beq_self_eq_true, Nat.reduceAdd, Nat.reduceLT, Nat.reduceLeDiff, Nat.reduceSub, Nat.reduceEqDiff, Nat.reduceMul, Int.reduceAdd, Int.reduceLT, Int.reduceLE, Int.reduceNeg, Int.reduceEq, Int.reduceSub, decide_true, decide_false, decide_eq_true_eq, cond_true, cond_false, Int.reducePow]) (by omega)
  obtain ⟨ds, r', t5, t6, h1, h2, e⟩ := draws_loop C cell A dg hA (.val (.int (many : Int))) ((List.range many).map fun (k : Nat) => (k : Int)) [] A .un .un (by simp only [List.length_nil, List.length_map, List.length_range]; omega)
  rw [List.map_map] at e
  have e' : (PyData.int ∘ fun (k : Nat) => (k : Int)) = fun (k : Nat) => PyData.int (k : Int) := rfl
  rw [e', List.nil_append] at e
  refine ⟨ds, by simpa using h1, h2, ?_⟩
  simp only [EV0, EV1, List.nodup_nil, List.nodup_cons, List.not_mem_nil, List.mem_cons, or_false, Nat.sub_self, Nat.add_one_sub_one, Nat.zero_lt_succ, if_true, if_false, eq_self_iff_true, reduceIte, reduceCtorEq, Nat.zero_le, slv, not_false_eq_true, and_self, and_true, true_and, Bool.not_true, Bool.not_false, beq_self_eq_true, Nat.reduceAdd, Nat.reduceLT, Nat.reduceLeDiff, Nat.reduceSub, Nat.reduceEqDiff, Nat.reduceMul, Int.reduceAdd, Int.reduceLT, Int.reduceLE, Int.reduceNeg, Int.reduceEq, Int.reduceSub, decide_true, decide_false, decide_eq_true_eq, cond_true, cond_false, Int.reducePow, hA, hp, hdg, hr, e]
/-! a def, run: its body first -/
section
variable {C : Cfg} {np n : Nat} {body : Ir} {as ρ0 ρ os : DEn} {r : Slo}
theorem run_rt (hl : as.length = np) (h0 : tagA as ++ List.replicate (n - np) .un = ρ0) (h1 : evS C body ρ0 = some (.rt r ρ)) (h2 : outsA ρ 0 as = some os) : runF C np n body as = some (r, os) := by
  unfold runF
  rw [if_pos hl, h0, h1]
  simp only [h2]
theorem run_nx (hl : as.length = np) (h0 : tagA as ++ List.replicate (n - np) .un = ρ0) (h1 : evS C body ρ0 = some (.nx ρ)) (h2 : outsA ρ 0 as = some os) : runF C np n body as = some (.val .none, os) := by
  unfold runF
  rw [if_pos hl, h0, h1]
  simp only [h2]
end
/-! while, a turn at a time -/
section
variable {C : Cfg} {c b : Ir} {n : Nat} {ρ ρ1 ρ2 : DEn}
theorem wh_go (h1 : evX C c ρ = some (.val (.bool true), ρ1)) (h2 : evS C b ρ1 = some (.nx ρ2)) : whS C c b (n + 1) ρ = whS C c b n ρ2 := by
  unfold whS
  simp only [whileL, h1, h2]
theorem wh_rt {r : Slo} (h1 : evX C c ρ = some (.val (.bool true), ρ1)) (h2 : evS C b ρ1 = some (.rt r ρ2)) : whS C c b (n + 1) ρ = some (.rt r ρ2) := by
  unfold whS
  simp only [whileL, h1, h2]
theorem wh_end (h1 : evX C c ρ = some (.val (.bool false), ρ1)) : whS C c b (n + 1) ρ = some (.nx ρ1) := by
  unfold whS
  simp only [whileL, h1]
end
/-! two lists, item by item -/
inductive F2 {α β : Type} (p : α → β → Prop) : List α → List β → Prop
  | nil : F2 p [] []
  | cons {a : α} {b : β} {as : List α} {bs : List β} : p a b → F2 p as bs → F2 p (a :: as) (b :: bs)
theorem pick {α β : Type} {p : α → β → Prop} : ∀ ks : List β, (∀ k ∈ ks, ∃ c, p c k) → ∃ cs, F2 p cs ks
  | [], _ => ⟨[], .nil⟩
  | k :: ks, h => by
    obtain ⟨c, hc⟩ := h k (List.mem_cons_self ..)
    obtain ⟨cs, hs⟩ := pick ks fun j hj => h j (List.mem_cons_of_mem _ hj)
    exact ⟨c :: cs, .cons hc hs⟩
theorem F2.len {α β : Type} {p : α → β → Prop} : ∀ {xs : List α} {ys : List β}, F2 p xs ys → xs.length = ys.length
  | _, _, .nil => rfl
  | _, _, .cons _ h => by rw [List.length_cons, List.length_cons, h.len]
theorem F2.maps {α β γ δ : Type} {p : α → β → Prop} {q : γ → δ → Prop} {f : α → γ} {g : β → δ} (w : ∀ a b, p a b → q (f a) (g b)) : ∀ {xs : List α} {ys : List β}, F2 p xs ys → F2 q (xs.map f) (ys.map g)
  | _, _, .nil => .nil
  | _, _, .cons h t => .cons (w _ _ h) (t.maps w)
theorem F2.of_map {α β γ : Type} {p : β → γ → Prop} (f : α → β) (g : α → γ) : ∀ l : List α, (∀ x ∈ l, p (f x) (g x)) → F2 p (l.map f) (l.map g)
  | [], _ => .nil
  | x :: l, h => .cons (h x (List.mem_cons_self ..)) (F2.of_map f g l fun y hy => h y (List.mem_cons_of_mem _ hy))
theorem F2.flip {α β : Type} {p : α → β → Prop} : ∀ {xs : List α} {ys : List β}, F2 p xs ys → F2 (fun b a => p a b) ys xs
  | _, _, .nil => .nil
  | _, _, .cons h t => .cons h t.flip
theorem F2.all {α β : Type} {p : α → β → Prop} {q : α → Prop} (w : ∀ a b, p a b → q a) : ∀ {xs : List α} {ys : List β}, F2 p xs ys → ∀ a ∈ xs, q a
  | _, _, .nil, a, h => by cases h
  | _, _, .cons h t, a, ha => by
    rcases List.mem_cons.mp ha with rfl | ha
    · exact w _ _ h
    · exact t.all w a ha
/-! for, comprehensions, a turn at a time -/
section
variable {C : Cfg} {t b c e : Ir} {ρ ρ1 ρ2 ρ3 : DEn} {d : PD} {ds acc : List PD}
theorem lp_go (h0 : asg t d ρ = some ρ1) (h1 : evS C b ρ1 = some (.nx ρ2)) : lpS C t b (d :: ds) ρ = lpS C t b ds ρ2 := by
  unfold lpS
  simp only [forL, h0, h1]
theorem lp_ct (h0 : asg t d ρ = some ρ1) (h1 : evS C b ρ1 = some (.ct ρ2)) : lpS C t b (d :: ds) ρ = lpS C t b ds ρ2 := by
  unfold lpS
  simp only [forL, h0, h1]
theorem lp_rt {r : Slo} (h0 : asg t d ρ = some ρ1) (h1 : evS C b ρ1 = some (.rt r ρ2)) : lpS C t b (d :: ds) ρ = some (.rt r ρ2) := by
  unfold lpS
  simp only [forL, h0, h1]
theorem lp_nil : lpS C t b [] ρ = some (.nx ρ) := rfl
theorem cm_nil : cmS C t c e ρ [] acc = some acc := rfl
theorem cm_go {r : Slo} {x : PD} (h0 : asg t d ρ = some ρ1) (h1 : evX C c ρ1 = some (.val (.bool true), ρ2)) (h2 : evX C e ρ2 = some (r, ρ3)) (h3 : frz r = some x) (hl : acc.length < 16777216) :
    cmS C t c e ρ (d :: ds) acc = cmS C t c e ρ ds (acc ++ [x]) := by
  have hl' : acc.length < sizeLine := hl
  unfold cmS
  simp only [compL, h0, h1, h2, h3, if_pos hl']
theorem cm_skip (h0 : asg t d ρ = some ρ1) (h1 : evX C c ρ1 = some (.val (.bool false), ρ2)) : cmS C t c e ρ (d :: ds) acc = cmS C t c e ρ ds acc := by
  unfold cmS
  simp only [compL, h0, h1]
/-- a comprehension without a test, by its items -/
theorem cm_all (C : Cfg) (t e : Ir) (ρ : DEn) : ∀ (ds xs acc : List PD), F2 (fun d x => ∃ ρ1 ρ3, asg t d ρ = some ρ1 ∧ evX C e ρ1 = some (.val x, ρ3)) ds xs → acc.length + ds.length ≤ 1000000 →
    cmS C t (.bl true) e ρ ds acc = some (acc ++ xs)
  | [], _, acc, .nil, _ => by rw [cm_nil, List.append_nil]
  | d :: ds, x :: xs, acc, .cons ⟨ρ1, ρ3, h0, h1⟩ h, l => by
    simp only [List.length_cons] at l
    rw [cm_go (ρ2 := ρ1) h0 rfl h1 rfl (by omega), cm_all C t e ρ ds xs (acc ++ [x]) h (by simp only [List.length_append, List.length_cons, List.length_nil]; omega)]
    simp
/-- .. with a test -/
theorem cm_some (C : Cfg) (t c e : Ir) (ρ : DEn) (f : PD → Option PD) : ∀ (ds acc : List PD), (∀ d ∈ ds, ∃ ρ1, asg t d ρ = some ρ1 ∧
      ((∃ x ρ2 ρ3, f d = some x ∧ evX C c ρ1 = some (.val (.bool true), ρ2) ∧ evX C e ρ2 = some (.val x, ρ3)) ∨ (∃ ρ2, f d = none ∧ evX C c ρ1 = some (.val (.bool false), ρ2)))) → acc.length + ds.length ≤ 1000000 →
    cmS C t c e ρ ds acc = some (acc ++ ds.filterMap f)
  | [], acc, _, _ => by rw [cm_nil, List.filterMap_nil, List.append_nil]
  | d :: ds, acc, h, l => by
    simp only [List.length_cons] at l
    obtain ⟨ρ1, h0, h1⟩ := h d (List.mem_cons_self ..)
    have hr := fun d' hd => h d' (List.mem_cons_of_mem _ hd)
    rcases h1 with ⟨x, ρ2, ρ3, e1, e2, e3⟩ | ⟨ρ2, e1, e2⟩
    · rw [cm_go h0 e2 e3 rfl (by omega), cm_some C t c e ρ f ds (acc ++ [x]) hr (by simp only [List.length_append, List.length_cons, List.length_nil]; omega), List.filterMap_cons, e1]
      simp
    · rw [cm_skip h0 e2, cm_some C t c e ρ f ds acc hr (by omega), List.filterMap_cons, e1]
end
/-! texts as lists of signs -/
abbrev S (l : List Nat) : Str := SX.S l
abbrev tx (l : List Nat) : PD := .str (S l)
theorem S_tl (l : List Nat) : (S l).cps.toList = l := rfl
theorem sub_tx {p q : List Nat} {c : Nat} (h : (p ++ c :: q).length ≤ 16777216) : subD (tx (p ++ c :: q)) (.int (p.length : Int)) = some (tx [c]) := by
  have l : (S (p ++ c :: q)).length ≤ sizeLine := by rw [SX.S_len]; exact h
  simp only [subD, tx, if_pos l]
  rw [atN (x := c) (by rw [List.getElem?_append_right (Nat.le_refl _), Nat.sub_self]; rfl)]
  rfl
theorem sub_tx0 {q : List Nat} {c : Nat} (h : (c :: q).length ≤ 16777216) : subD (tx (c :: q)) (.int 0) = some (tx [c]) := sub_tx (p := []) h
theorem len_tx {l : List Nat} (h : l.length ≤ 16777216) : prD .len [tx l] = some (.val (.int (l.length : Int))) := by
  have q : l.length ≤ sizeLine := h
  simp only [prD, tx, SX.S_len, if_pos q]
theorem in_tx (c : Nat) (l : List Nat) : copD .isin (tx [c]) (tx l) = some (decide (c ∈ l)) := by
  simp only [copD, tx]
  rw [SX.in_one]
theorem nin_tx (c : Nat) (l : List Nat) : copD .nin (tx [c]) (tx l) = some (!decide (c ∈ l)) := by
  simp only [copD, tx]
  rw [SX.in_one]
theorem eq_tx (a b : List Nat) : copD .eq (tx a) (tx b) = some (decide (a = b)) := by
  simp only [copD, tx, eqD]
  rw [SX.S_beq_eq]
theorem ne_tx (a b : List Nat) : copD .ne (tx a) (tx b) = some (!decide (a = b)) := by
  simp only [copD, tx, eqD, notB]
  rw [SX.S_beq_eq]
theorem add_tx {a b : List Nat} (h : a.length + b.length ≤ 16777216) : bopD .add (tx a) (tx b) = some (.val (tx (a ++ b))) := by
  have q : (S a).length + (S b).length ≤ sizeLine := by rw [SX.S_len, SX.S_len]; exact h
  simp only [bopD, tx, if_pos q]
  rw [SX.S_cat]
theorem sl_at (p r : List Nat) (k : Nat) : Txt.slice (S (p ++ r)) (some (p.length : Int)) (some ((p.length : Int) + (k : Int))) = S (r.take k) := by
  rw [← C8.cutS_slice]
  unfold L2.cutS HT.sIx
  rw [S_tl, SX.S_len]
  have e1 : ¬ ((p.length : Int) < 0) := by omega
  have e2 : ¬ ((p.length : Int) + (k : Int) < 0) := by omega
  simp only [e1, e2, if_false]
  have e3 : min ((p.length : Int)).toNat (p ++ r).length = p.length := by rw [List.length_append]; omega
  rw [e3, List.drop_left]
  show S _ = S _
  congr 1
  have e4 : min ((p.length : Int) + (k : Int)).toNat (p ++ r).length - p.length = min k r.length := by rw [List.length_append]; omega
  rw [e4]
  rcases Nat.le_total k r.length with h | h
  · rw [Nat.min_eq_left h]
  · rw [Nat.min_eq_right h, List.take_of_length_le h, List.take_of_length_le (Nat.le_refl _)]
theorem slc_at {p r : List Nat} {i j : Int} (k : Nat) (h : (p ++ r).length ≤ 16777216) (hi : i = p.length) (hj : j = (p.length : Int) + (k : Int)) : slD (tx (p ++ r)) (some i) (some j) = some (.val (tx (r.take k))) := by
  have q : (S (p ++ r)).length ≤ sizeLine := by rw [SX.S_len]; exact h
  subst hi hj
  simp only [slD, tx, if_pos q]
  rw [sl_at]
theorem slc_to {r : List Nat} (k : Nat) (h : r.length ≤ 16777216) : slD (tx r) none (some (k : Int)) = some (.val (tx (r.take k))) := by
  have q : (S r).length ≤ sizeLine := by rw [SX.S_len]; exact h
  simp only [slD, tx, if_pos q]
  rw [SX.slice_to (by omega), Int.toNat_natCast]
theorem join_tx {ys : List (List Nat)} {a : List Nat} (h : (ys.map List.length).sum + ys.length * a.length ≤ 16777216) : mtD .join (S a) [.list (ys.map tx)] = some (.val (tx (TL.joinL a ys))) := by
  have e : ∀ l : List (List Nat), strsOf (l.map tx) = some (l.map S) := fun l => by
    induction l with
    | nil => rfl
    | cons x l ih => rw [List.map_cons, strsOf, ih]; rfl
  have q : ((ys.map S).map (·.length)).sum + (ys.map S).length * (S a).length ≤ 16777216 := by rw [SX.lens, List.length_map, SX.S_len]; exact h
  simp only [mtD, e, if_pos q]
  rw [SX.join_S]
theorem joinL_nil : ∀ ys : List (List Nat), TL.joinL [] ys = ys.flatten
  | [] => rfl
  | [y] => by simp [TL.joinL]
  | y :: z :: ys => by rw [TL.joinL, joinL_nil (z :: ys)]; simp
end Lc

set_option Elab.async false
set_option linter.all false
set_option maxRecDepth 100000
set_option maxHeartbeats 2000000
namespace Lw
open PySem PySem.Spec PyProof.Rows L2 Dv Lc
theorem run0 (k : Nat) (as : DEn) : fnK rs glK (k + 1) 0 as = callD [.bool false] 1 (runF ⟨fnK rs glK k, glK⟩ 2 4 ir_number_of) as := rfl
theorem run1 (k : Nat) (as : DEn) : fnK rs glK (k + 1) 1 as = runF ⟨fnK rs glK k, glK⟩ 2 3 ir_run_at as := rfl
theorem run2 (k : Nat) (as : DEn) : fnK rs glK (k + 1) 2 as = runF ⟨fnK rs glK k, glK⟩ 1 1 ir_kind_of as := rfl
theorem run3 (k : Nat) (as : DEn) : fnK rs glK (k + 1) 3 as = runF ⟨fnK rs glK k, glK⟩ 2 3 ir_token_at as := rfl
theorem run4 (k : Nat) (as : DEn) : fnK rs glK (k + 1) 4 as = runF ⟨fnK rs glK k, glK⟩ 2 3 ir_row_end as := rfl
theorem run5 (k : Nat) (as : DEn) : fnK rs glK (k + 1) 5 as = runF ⟨fnK rs glK k, glK⟩ 1 7 ir_token_list as := rfl
/-! signs -/
def smallL : List Nat := [97, 98, 99, 100, 101, 102, 103, 104, 105, 106, 107, 108, 109, 110, 111, 112, 113, 114, 115, 116, 117, 118, 119, 120, 121, 122]
def digL : List Nat := [48, 49, 50, 51, 52, 53, 54, 55, 56, 57]
def shortL : List Nat := [123, 125, 40, 41, 44, 59, 46, 43, 45, 42, 47, 61, 60, 62]
def longD : List PD := [tx [61, 61], tx [33, 61], tx [60, 61], tx [62, 61]]
theorem g0 : glK 0 = some (tx smallL) := by
  show some c_SMALL = _
  exact congrArg some (congrArg PyData.str (by decide +kernel))
theorem g1 : glK 1 = some (tx digL) := by
  show some c_DIGITS = _
  exact congrArg some (congrArg PyData.str (by decide +kernel))
theorem g2 : glK 2 = some c_KEYWORDS := rfl
theorem g3 : glK 3 = some (.tuple longD) := by
  show some c_LONG_SIGNS = _
  have e1 : ("==" : Str) = S [61, 61] := by decide +kernel
  have e2 : ("!=" : Str) = S [33, 61] := by decide +kernel
  have e3 : ("<=" : Str) = S [60, 61] := by decide +kernel
  have e4 : (">=" : Str) = S [62, 61] := by decide +kernel
  unfold c_LONG_SIGNS longD
  rw [e1, e2, e3, e4]
theorem g4 : glK 4 = some (tx shortL) := by
  show some c_SHORT_SIGNS = _
  exact congrArg some (congrArg PyData.str (by decide +kernel))
theorem g5 : glK 5 = some (.int 12) := rfl
theorem s_nl : ("\n" : Str) = S [10] := by decide +kernel
theorem s_sp : (" " : Str) = S [32] := by decide +kernel
theorem s_ha : ("#" : Str) = S [35] := by decide +kernel
theorem s_em : ("" : Str) = S [] := by decide +kernel
theorem s_0 : ("0" : Str) = S [48] := by decide +kernel
def smallC (c : Nat) : Bool := decide (c ∈ smallL)
def digC (c : Nat) : Bool := decide (c ∈ digL)
def runC (c : Nat) : Bool := smallC c || digC c
theorem digC_iff (c : Nat) : digC c = true ↔ 48 ≤ c ∧ c ≤ 57 := by
  unfold digC digL
  simp only [decide_eq_true_eq, List.mem_cons, List.not_mem_nil, or_false]
  omega
theorem smallC_iff (c : Nat) : smallC c = true ↔ 97 ≤ c ∧ c ≤ 122 := by
  unfold smallC smallL
  simp only [decide_eq_true_eq, List.mem_cons, List.not_mem_nil, or_false]
  omega
theorem runC_iff (c : Nat) : runC c = true ↔ (97 ≤ c ∧ c ≤ 122) ∨ (48 ≤ c ∧ c ≤ 57) := by
  unfold runC
  rw [Bool.or_eq_true, smallC_iff, digC_iff]
/-! numbers -/
def numOk (w : List Nat) : Bool := !w.isEmpty && decide (w.length ≤ 9) && w.all digC && !(decide (w.head? = some 48) && decide (1 < w.length))
theorem dig_loop (C : Cfg) (hg : C.gl 1 = some (tx digL)) (a b c : Slo) : ∀ (w : List Nat) (s : Slo), w.all digC = true → ∃ s', lpS C (.var 3) (.cons (.ifs (.cmp .nin (.var 3) (.glb 1)) (.cons (.ret (.non)) .nil) .nil) .nil) (w.map fun c => PyData.str ⟨#[c]⟩) [a, b, c, s] = some (.nx [a, b, c, s'])
  | [], s, _ => ⟨s, by simp only [List.map_nil, EV0]⟩
  | d :: w, s, h => by
    rw [List.all_cons, Bool.and_eq_true] at h
    obtain ⟨s', e⟩ := dig_loop C hg a b c w (.val (tx [d])) h.2
    refine ⟨s', ?_⟩
    have q := nin_tx d digL
    have q2 : decide (d ∈ digL) = true := h.1
    rw [q2] at q
    rw [List.map_cons]
    show lpS C _ _ (tx [d] :: _) _ = _
    simp only [EV0, EV1, List.nodup_nil, List.nodup_cons, List.not_mem_nil, List.mem_cons, or_false, Nat.sub_self, Nat.add_one_sub_one, Nat.zero_lt_succ, if_true, if_false, eq_self_iff_true, reduceIte, reduceCtorEq, Nat.zero_le, slv, not_false_eq_true, and_self, and_true, true_and, Bool.not_true, Bool.not_false, beq_self_eq_true, Nat.reduceAdd, Nat.reduceLT, Nat.reduceLeDiff, Nat.reduceSub, Nat.reduceEqDiff, Nat.reduceMul, Int.reduceAdd, Int.reduceLT, Int.reduceLE, Int.reduceNeg, Int.reduceEq, Int.reduceSub, decide_true, decide_false, decide_eq_true_eq, cond_true, cond_false, Int.reducePow, hg, q, e]
theorem number_ok {K : Nat} (hK : 1 ≤ K) {w : List Nat} (h : numOk w = true) : ∃ i : Int, fnK rs glK K 0 [.val (tx w)] = some (.val (.int i), [.un]) := by
  obtain ⟨k, rfl⟩ : ∃ k, K = k + 1 := ⟨K - 1, by omega⟩
  unfold numOk at h
  simp only [Bool.and_eq_true, Bool.not_eq_true', decide_eq_true_eq] at h
  obtain ⟨⟨⟨h1, h2⟩, h3⟩, h4⟩ := h
  cases w with
  | nil => cases h1
  | cons d w =>
    have l : (d :: w).length ≤ 16777216 := Nat.le_trans h2 (by decide)
    have ln := len_tx l
    have c9 : ¬ ((9 : Int) < ((d :: w).length : Int)) := by omega
    have e0 := eq_tx (d :: w) []
    rw [decide_eq_false (by simp)] at e0
    have sb := sub_tx0 l
    have e1 := eq_tx [d] [48]
    have e2 := ne_tx (d :: w) (d :: w)
    rw [decide_eq_true rfl] at e2
    obtain ⟨s', lp⟩ := dig_loop ⟨fnK rs glK k, glK⟩ g1 (.val (tx (d :: w))) (.val (.bool false)) (.val (tx (d :: w))) (d :: w) .un h3
    have it : itD (tx (d :: w)) = some ((d :: w).map fun c => PyData.str ⟨#[c]⟩) := rfl
    have all : (d :: w).all (fun c => decide (48 ≤ c) && decide (c ≤ 57)) = true := by
      rw [List.all_eq_true] at h3 ⊢
      intro c hc
      have := (digC_iff c).mp (h3 c hc)
      simp [this]
    have iv := SX.int_S all (by simp) (Nat.le_trans h2 (by decide))
    have pi : prD .int [tx (d :: w)] = some (.val (.int ((NumText.digitsVal (d :: w) : Nat) : Int))) := by
      have q : (d :: w).length ≤ 640 := Nat.le_trans h2 (by decide)
      simp only [prD, tx, iv, SX.S_len, if_pos q]
    refine ⟨((NumText.digitsVal (d :: w) : Nat) : Int), ?_⟩
    have cA : copD .gt (.int ((d :: w).length : Int)) (.int 9) = some false := by simp only [copD, decide_eq_false c9]
    have c1 : evX ⟨fnK rs glK k, glK⟩ (.and (.cmp .eq (.sub (.var 2) (.int 0)) (.str "0")) (.cmp .gt (.prim .len (.cons (.var 2) .nil)) (.int 1))) [.val (tx (d :: w)), .val (.bool false), .val (tx (d :: w)), s'] = some (.val (.bool false), [.val (tx (d :: w)), .val (.bool false), .val (tx (d :: w)), s']) := by
      by_cases hd : d = 48
      · have n1 : ¬ (1 < (d :: w).length) := fun z => by
          rw [hd] at h4
          simp only [List.head?_cons, decide_true, Bool.true_and, decide_eq_false_iff_not] at h4
          rw [hd] at z
          exact h4 z
        have n2 : ¬ ((1 : Int) < ((d :: w).length : Int)) := by omega
        have cB : copD .gt (.int ((d :: w).length : Int)) (.int 1) = some false := by simp only [copD, decide_eq_false n2]
        rw [decide_eq_true (by rw [hd])] at e1
        generalize d :: w = W at *
        simp only [EV0, EV1, List.nodup_nil, List.nodup_cons, List.not_mem_nil, List.mem_cons, or_false, Nat.sub_self, Nat.add_one_sub_one, Nat.zero_lt_succ, if_true, if_false, eq_self_iff_true, reduceIte, reduceCtorEq, Nat.zero_le, slv, not_false_eq_true, and_self, and_true, true_and, Bool.not_true, Bool.not_false, beq_self_eq_true, Nat.reduceAdd, Nat.reduceLT, Nat.reduceLeDiff, Nat.reduceSub, Nat.reduceEqDiff, Nat.reduceMul, Int.reduceAdd, Int.reduceLT, Int.reduceLE, Int.reduceNeg, Int.reduceEq, Int.reduceSub, decide_true, decide_false, decide_eq_true_eq, cond_true, cond_false, Int.reducePow, sb, s_0, e1, ln, cB]
      · rw [decide_eq_false (by intro z; injection z with z; exact hd z)] at e1
        generalize d :: w = W at *
        simp only [EV0, EV1, List.nodup_nil, List.nodup_cons, List.not_mem_nil, List.mem_cons, or_false, Nat.sub_self, Nat.add_one_sub_one, Nat.zero_lt_succ, if_true, if_false, eq_self_iff_true, reduceIte, reduceCtorEq, Nat.zero_le, slv, not_false_eq_true, and_self, and_true, true_and, Bool.not_true, Bool.not_false, beq_self_eq_true, Nat.reduceAdd, Nat.reduceLT, Nat.reduceLeDiff, Nat.reduceSub, Nat.reduceEqDiff, Nat.reduceMul, Int.reduceAdd, Int.reduceLT, Int.reduceLE, Int.reduceNeg, Int.reduceEq, Int.reduceSub, decide_true, decide_false, decide_eq_true_eq, cond_true, cond_false, Int.reducePow, sb, s_0, e1]
    rw [run0]
    generalize d :: w = W at *
    simp only [callD, List.map_cons, List.map_nil, EV0, EV1, List.nodup_nil, List.nodup_cons, List.not_mem_nil, List.mem_cons, or_false, Nat.sub_self, Nat.add_one_sub_one, Nat.zero_lt_succ, if_true, if_false, eq_self_iff_true, reduceIte, reduceCtorEq, Nat.zero_le, slv, not_false_eq_true, and_self, and_true, true_and, Bool.not_true, Bool.not_false, beq_self_eq_true, Nat.reduceAdd, Nat.reduceLT, Nat.reduceLeDiff, Nat.reduceSub, Nat.reduceEqDiff, Nat.reduceMul, Int.reduceAdd, Int.reduceLT, Int.reduceLE, Int.reduceNeg, Int.reduceEq, Int.reduceSub, decide_true, decide_false, decide_eq_true_eq, cond_true, cond_false, Int.reducePow, s_em, e0, ln, cA, it, lp, c1, e2, pi, List.take]
end Lw

set_option Elab.async false
set_option linter.all false
set_option maxRecDepth 100000
set_option maxHeartbeats 2000000
namespace Lw
open PySem PySem.Spec PyProof.Rows L2 Dv Lc
/-! a run -/
theorem run_loop (C : Cfg) (h0 : C.gl 0 = some (tx smallL)) (h1 : C.gl 1 = some (tx digL)) (T q : List Nat) (a : Slo) (hT : T.length ≤ 100000) (hq : ∀ c, q.head? = some c → runC c = false) :
    ∀ (r p : List Nat) (n : Nat), T = p ++ (r ++ q) → r.all runC = true → r.length < n →
      whS C (.and (.cmp .lt (.var 2) (.prim .len (.cons (.var 0) .nil))) (.or (.cmp .isin (.sub (.var 0) (.var 2)) (.glb 0)) (.cmp .isin (.sub (.var 0) (.var 2)) (.glb 1)))) (.cons (.aug 2 true (.int 1)) .nil) n [.val (tx T), a, .val (.int (p.length : Int))] = some (.nx [.val (tx T), a, .val (.int ((p ++ r).length : Int))])
  | r, p, 0, _, _, h => absurd h (by omega)
  | [], p, n + 1, e, _, _ => by
    rw [List.append_nil]
    rw [List.nil_append] at e
    have lT : T.length ≤ 16777216 := Nat.le_trans hT (by decide)
    have ln := len_tx lT
    cases q with
    | nil =>
      have c1 : ¬ ((p.length : Int) < (T.length : Int)) := by rw [e, List.append_nil]; omega
      have cA : copD .lt (.int (p.length : Int)) (.int (T.length : Int)) = some false := by simp only [copD, decide_eq_false c1]
      exact wh_end (by simp only [EV0, EV1, List.nodup_nil, List.nodup_cons, List.not_mem_nil, List.mem_cons, or_false, Nat.sub_self, Nat.add_one_sub_one, Nat.zero_lt_succ, if_true, if_false, eq_self_iff_true, reduceIte, reduceCtorEq, Nat.zero_le, slv, not_false_eq_true, and_self, and_true, true_and, Bool.not_true, Bool.not_false, beq_self_eq_true, Nat.reduceAdd, Nat.reduceLT, Nat.reduceLeDiff, Nat.reduceSub, Nat.reduceEqDiff, Nat.reduceMul, Int.reduceAdd, Int.reduceLT, Int.reduceLE, Int.reduceNeg, Int.reduceEq, Int.reduceSub, decide_true, decide_false, decide_eq_true_eq, cond_true, cond_false, Int.reducePow, ln, cA])
    | cons c q =>
      have c1 : (p.length : Int) < (T.length : Int) := by rw [e, List.length_append, List.length_cons]; omega
      have cA : copD .lt (.int (p.length : Int)) (.int (T.length : Int)) = some true := by simp only [copD, decide_eq_true c1]
      have sb := sub_tx (p := p) (q := q) (c := c) (by rw [← e]; exact lT)
      rw [← e] at sb
      have hc := hq c rfl
      unfold runC at hc
      rw [Bool.or_eq_false_iff] at hc
      have q1 := in_tx c smallL
      have q2 := in_tx c digL
      rw [show decide (c ∈ smallL) = false from hc.1] at q1
      rw [show decide (c ∈ digL) = false from hc.2] at q2
      exact wh_end (by simp only [EV0, EV1, List.nodup_nil, List.nodup_cons, List.not_mem_nil, List.mem_cons, or_false, Nat.sub_self, Nat.add_one_sub_one, Nat.zero_lt_succ, if_true, if_false, eq_self_iff_true, reduceIte, reduceCtorEq, Nat.zero_le, slv, not_false_eq_true, and_self, and_true, true_and, Bool.not_true, Bool.not_false, beq_self_eq_true, Nat.reduceAdd, Nat.reduceLT, Nat.reduceLeDiff, Nat.reduceSub, Nat.reduceEqDiff, Nat.reduceMul, Int.reduceAdd, Int.reduceLT, Int.reduceLE, Int.reduceNeg, Int.reduceEq, Int.reduceSub, decide_true, decide_false, decide_eq_true_eq, cond_true, cond_false, Int.reducePow, ln, cA, sb, h0, h1, q1, q2])
  | c :: r, p, n + 1, e, hr, hn => by
    rw [List.all_cons, Bool.and_eq_true] at hr
    have lT : T.length ≤ 16777216 := Nat.le_trans hT (by decide)
    have ln := len_tx lT
    have c1 : (p.length : Int) < (T.length : Int) := by rw [e, List.length_append, List.length_append, List.length_cons]; omega
    have cA : copD .lt (.int (p.length : Int)) (.int (T.length : Int)) = some true := by simp only [copD, decide_eq_true c1]
    have sb := sub_tx (p := p) (q := r ++ q) (c := c) (by rw [← List.cons_append, ← e]; exact lT)
    rw [← List.cons_append, ← e] at sb
    have ih := run_loop C h0 h1 T q a hT hq r (p ++ [c]) n (by rw [e]; simp) hr.2 (by simp only [List.length_cons] at hn; omega)
    have cc : evX C (.and (.cmp .lt (.var 2) (.prim .len (.cons (.var 0) .nil))) (.or (.cmp .isin (.sub (.var 0) (.var 2)) (.glb 0)) (.cmp .isin (.sub (.var 0) (.var 2)) (.glb 1)))) [.val (tx T), a, .val (.int (p.length : Int))] = some (.val (.bool true), [.val (tx T), a, .val (.int (p.length : Int))]) := by
      have q1 := in_tx c smallL
      have q2 := in_tx c digL
      have hc := hr.1
      unfold runC at hc
      cases hs : smallC c with
      | true =>
        rw [show decide (c ∈ smallL) = true from hs] at q1
        simp only [EV0, EV1, List.nodup_nil, List.nodup_cons, List.not_mem_nil, List.mem_cons, or_false, Nat.sub_self, Nat.add_one_sub_one, Nat.zero_lt_succ, if_true, if_false, eq_self_iff_true, reduceIte, reduceCtorEq, Nat.zero_le, slv, not_false_eq_true, and_self, and_true, true_and, Bool.not_true, Bool.not_false, beq_self_eq_true, Nat.reduceAdd, Nat.reduceLT, Nat.reduceLeDiff, Nat.reduceSub, Nat.reduceEqDiff, Nat.reduceMul, Int.reduceAdd, Int.reduceLT, Int.reduceLE, Int.reduceNeg, Int.reduceEq, Int.reduceSub, decide_true, decide_false, decide_eq_true_eq, cond_true, cond_false, Int.reducePow, ln, cA, sb, h0, q1]
      | false =>
        rw [hs, Bool.false_or] at hc
        rw [show decide (c ∈ smallL) = false from hs] at q1
        rw [show decide (c ∈ digL) = true from hc] at q2
        simp only [EV0, EV1, List.nodup_nil, List.nodup_cons, List.not_mem_nil, List.mem_cons, or_false, Nat.sub_self, Nat.add_one_sub_one, Nat.zero_lt_succ, if_true, if_false, eq_self_iff_true, reduceIte, reduceCtorEq, Nat.zero_le, slv, not_false_eq_true, and_self, and_true, true_and, Bool.not_true, Bool.not_false, beq_self_eq_true, Nat.reduceAdd, Nat.reduceLT, Nat.reduceLeDiff, Nat.reduceSub, Nat.reduceEqDiff, Nat.reduceMul, Int.reduceAdd, Int.reduceLT, Int.reduceLE, Int.reduceNeg, Int.reduceEq, Int.reduceSub, decide_true, decide_false, decide_eq_true_eq, cond_true, cond_false, Int.reducePow, ln, cA, sb, h0, h1, q1, q2]
    have bb : evS C (.cons (.aug 2 true (.int 1)) .nil) [.val (tx T), a, .val (.int (p.length : Int))] = some (.nx [.val (tx T), a, .val (.int ((p ++ [c]).length : Int))]) := by
      have e1 : ((p ++ [c]).length : Int) = (p.length : Int) + 1 := by simp
      rw [e1]
      simp only [EV0, EV1, List.nodup_nil, List.nodup_cons, List.not_mem_nil, List.mem_cons, or_false, Nat.sub_self, Nat.add_one_sub_one, Nat.zero_lt_succ, if_true, if_false, eq_self_iff_true, reduceIte, reduceCtorEq, Nat.zero_le, slv, not_false_eq_true, and_self, and_true, true_and, Bool.not_true, Bool.not_false, beq_self_eq_true, Nat.reduceAdd, Nat.reduceLT, Nat.reduceLeDiff, Nat.reduceSub, Nat.reduceEqDiff, Nat.reduceMul, Int.reduceAdd, Int.reduceLT, Int.reduceLE, Int.reduceNeg, Int.reduceEq, Int.reduceSub, decide_true, decide_false, decide_eq_true_eq, cond_true, cond_false, Int.reducePow]
    rw [wh_go cc bb, ih]
    simp
theorem run_ok {K : Nat} (hK : 1 ≤ K) {T p r q : List Nat} (hT : T.length ≤ 100000) (e : T = p ++ (r ++ q)) (hr : r.all runC = true) (hq : ∀ c, q.head? = some c → runC c = false) :
    fnK rs glK K 1 [.val (tx T), .val (.int (p.length : Int))] = some (.val (tx r), [.un, .un]) := by
  obtain ⟨k, rfl⟩ : ∃ k, K = k + 1 := ⟨K - 1, by omega⟩
  have lp := run_loop ⟨fnK rs glK k, glK⟩ g0 g1 T q (.val (.int (p.length : Int))) hT hq r p wfuel e hr (by
    have : r.length ≤ T.length := by rw [e]; simp only [List.length_append]; omega
    unfold wfuel; omega)
  have sl := slc_at (p := p) (r := r ++ q) (i := p.length) (j := ((p ++ r).length : Int)) r.length (by rw [← e]; exact Nat.le_trans hT (by decide)) rfl (by simp)
  rw [← e, List.take_left] at sl
  rw [run1]
  simp only [EV0, EV1, List.nodup_nil, List.nodup_cons, List.not_mem_nil, List.mem_cons, or_false, Nat.sub_self, Nat.add_one_sub_one, Nat.zero_lt_succ, if_true, if_false, eq_self_iff_true, reduceIte, reduceCtorEq, Nat.zero_le, slv, not_false_eq_true, and_self, and_true, true_and, Bool.not_true, Bool.not_false, beq_self_eq_true, Nat.reduceAdd, Nat.reduceLT, Nat.reduceLeDiff, Nat.reduceSub, Nat.reduceEqDiff, Nat.reduceMul, Int.reduceAdd, Int.reduceLT, Int.reduceLE, Int.reduceNeg, Int.reduceEq, Int.reduceSub, decide_true, decide_false, decide_eq_true_eq, cond_true, cond_false, Int.reducePow, lp, sl]
/-! kinds -/
def kwL : List PD := match c_KEYWORDS with
  | .tuple ds => ds
  | _ => []
theorem kw_eq : c_KEYWORDS = .tuple kwL := rfl
def kwB (w : List Nat) : Bool := inD (tx w) kwL
theorem kw_in (w : List Nat) : copD .isin (tx w) c_KEYWORDS = some (kwB w) := by
  have e : allScal kwL = true := by decide +kernel
  rw [kw_eq]
  simp only [copD, tx, scalD, e, and_self, if_true]
  rfl
def headC (f : Nat → Bool) (w : List Nat) : Bool := match w with
  | [] => false
  | c :: _ => f c
def RunW (w : List Nat) : Prop := w ≠ [] ∧ w.all runC = true ∧ (headC digC w = true → numOk w = true) ∧ (headC digC w = false → w.length ≤ 12)
def signsL : List (List Nat) := [[123], [125], [40], [41], [44], [59], [46], [43], [45], [42], [47], [61], [61, 61], [33, 61], [60], [60, 61], [62], [62, 61]]
def Good (w : List Nat) : Prop := RunW w ∨ w ∈ signsL
def kindL (w : List Nat) : Str := if headC digC w = true then "number" else if kwB w = true then "keyword" else if headC smallC w = true then "name" else "sign"
theorem kind_ok {K : Nat} (hK : 2 ≤ K) {w : List Nat} (h : RunW w) (hl : w.length ≤ 100000) : fnK rs glK K 2 [.val (tx w)] = some (.val (.str (kindL w)), [.un]) := by
  obtain ⟨k, rfl⟩ : ∃ k, K = k + 1 := ⟨K - 1, by omega⟩
  obtain ⟨h1, h2, h3, h4⟩ := h
  cases w with
  | nil => exact absurd rfl h1
  | cons c w =>
    have l : (c :: w).length ≤ 16777216 := Nat.le_trans hl (by decide)
    have sb := sub_tx0 l
    have q1 := in_tx c digL
    have hc : decide (c ∈ digL) = headC digC (c :: w) := rfl
    rw [hc] at q1
    rw [run2]
    unfold kindL
    cases hd : headC digC (c :: w) with
    | true =>
      obtain ⟨i, e⟩ := number_ok (K := k) (by omega) (h3 hd)
      rw [hd] at q1
      have ci : copD .is (.int i) .none = some false := rfl
      generalize c :: w = W at *
      simp only [EV0, EV1, List.nodup_nil, List.nodup_cons, List.not_mem_nil, List.mem_cons, or_false, Nat.sub_self, Nat.add_one_sub_one, Nat.zero_lt_succ, if_true, if_false, eq_self_iff_true, reduceIte, reduceCtorEq, Nat.zero_le, slv, not_false_eq_true, and_self, and_true, true_and, Bool.not_true, Bool.not_false, beq_self_eq_true, Nat.reduceAdd, Nat.reduceLT, Nat.reduceLeDiff, Nat.reduceSub, Nat.reduceEqDiff, Nat.reduceMul, Int.reduceAdd, Int.reduceLT, Int.reduceLE, Int.reduceNeg, Int.reduceEq, Int.reduceSub, decide_true, decide_false, decide_eq_true_eq, cond_true, cond_false, Int.reducePow, g1, sb, q1, e, ci]
    | false =>
      rw [hd] at q1
      have kw := kw_in (c :: w)
      have ln := len_tx l
      have l12 : ¬ ((12 : Int) < ((c :: w).length : Int)) := by have := h4 hd; omega
      have cA : copD .gt (.int ((c :: w).length : Int)) (.int 12) = some false := by simp only [copD, decide_eq_false l12]
      have hs : headC smallC (c :: w) = true := by
        rw [List.all_cons, Bool.and_eq_true] at h2
        have := h2.1
        unfold runC at this
        rw [show digC c = false from hd, Bool.or_false] at this
        exact this
      rw [hs]
      cases hk : kwB (c :: w) with
      | true =>
        rw [hk] at kw
        generalize c :: w = W at *
        simp only [EV0, EV1, List.nodup_nil, List.nodup_cons, List.not_mem_nil, List.mem_cons, or_false, Nat.sub_self, Nat.add_one_sub_one, Nat.zero_lt_succ, if_true, if_false, eq_self_iff_true, reduceIte, reduceCtorEq, Nat.zero_le, slv, not_false_eq_true, and_self, and_true, true_and, Bool.not_true, Bool.not_false, beq_self_eq_true, Nat.reduceAdd, Nat.reduceLT, Nat.reduceLeDiff, Nat.reduceSub, Nat.reduceEqDiff, Nat.reduceMul, Int.reduceAdd, Int.reduceLT, Int.reduceLE, Int.reduceNeg, Int.reduceEq, Int.reduceSub, decide_true, decide_false, decide_eq_true_eq, cond_true, cond_false, Int.reducePow, g1, g2, sb, q1, kw, Bool.false_eq_true]
      | false =>
        rw [hk] at kw
        generalize c :: w = W at *
        simp only [EV0, EV1, List.nodup_nil, List.nodup_cons, List.not_mem_nil, List.mem_cons, or_false, Nat.sub_self, Nat.add_one_sub_one, Nat.zero_lt_succ, if_true, if_false, eq_self_iff_true, reduceIte, reduceCtorEq, Nat.zero_le, slv, not_false_eq_true, and_self, and_true, true_and, Bool.not_true, Bool.not_false, beq_self_eq_true, Nat.reduceAdd, Nat.reduceLT, Nat.reduceLeDiff, Nat.reduceSub, Nat.reduceEqDiff, Nat.reduceMul, Int.reduceAdd, Int.reduceLT, Int.reduceLE, Int.reduceNeg, Int.reduceEq, Int.reduceSub, decide_true, decide_false, decide_eq_true_eq, cond_true, cond_false, Int.reducePow, g1, g2, g5, sb, q1, kw, ln, cA, Bool.false_eq_true]
/-! a token -/
def Fol (w f : List Nat) : Prop := (RunW w → ∀ c, f.head? = some c → runC c = false) ∧ (w ∈ [[61], [60], [62]] → f.head? ≠ some 61)
theorem long_in (w : List Nat) : copD .isin (tx w) (.tuple longD) = some (decide (w ∈ [[61, 61], [33, 61], [60, 61], [62, 61]])) := by
  have e : allScal longD = true := rfl
  simp only [copD, tx, scalD, e, and_self, if_true]
  simp only [inD, longD, tx, List.any_cons, List.any_nil, PyData.eqv, SX.S_beq_eq, List.mem_cons, List.not_mem_nil, or_false, Bool.or_false, Bool.decide_or, eq_comm]
end Lw

set_option Elab.async false
set_option linter.all false
set_option maxRecDepth 100000
set_option maxHeartbeats 2000000
namespace Lw
open PySem PySem.Spec PyProof.Rows L2 Dv Lc
theorem sign_head {w : List Nat} (h : w ∈ signsL) : ∃ c r, w = c :: r ∧ runC c = false := by
  unfold signsL at h
  simp only [List.mem_cons, List.not_mem_nil, or_false] at h
  rcases h with rfl | rfl | rfl | rfl | rfl | rfl | rfl | rfl | rfl | rfl | rfl | rfl | rfl | rfl | rfl | rfl | rfl | rfl <;> exact ⟨_, _, rfl, by decide⟩
theorem sign_kind {w : List Nat} (h : w ∈ signsL) : kindL w = "sign" := by
  unfold signsL at h
  simp only [List.mem_cons, List.not_mem_nil, or_false] at h
  rcases h with rfl | rfl | rfl | rfl | rfl | rfl | rfl | rfl | rfl | rfl | rfl | rfl | rfl | rfl | rfl | rfl | rfl | rfl <;> decide +kernel
theorem token_ok {K : Nat} (hK : 3 ≤ K) {T p w f : List Nat} (hT : T.length ≤ 100000) (e : T = p ++ (w ++ f)) (h : Good w) (hf : Fol w f) :
    fnK rs glK K 3 [.val (tx T), .val (.int (p.length : Int))] = some (.val (.tuple [.str (kindL w), tx w]), [.un, .un]) := by
  obtain ⟨k, rfl⟩ : ∃ k, K = k + 1 := ⟨K - 1, by omega⟩
  have lT : T.length ≤ 16777216 := Nat.le_trans hT (by decide)
  rw [run3]
  by_cases hr : RunW w
  · have r1 := run_ok (K := k) (by omega) hT e hr.2.1 (hf.1 hr)
    have lw : w.length ≤ 100000 := by rw [e] at hT; simp only [List.length_append] at hT; omega
    have r2 := kind_ok (K := k) (by omega) hr lw
    have n1 := ne_tx w []
    rw [decide_eq_false hr.1] at n1
    simp only [EV0, EV1, List.nodup_nil, List.nodup_cons, List.not_mem_nil, List.mem_cons, or_false, Nat.sub_self, Nat.add_one_sub_one, Nat.zero_lt_succ, if_true, if_false, eq_self_iff_true, reduceIte, reduceCtorEq, Nat.zero_le, slv, not_false_eq_true, and_self, and_true, true_and, Bool.not_true, Bool.not_false, beq_self_eq_true, Nat.reduceAdd, Nat.reduceLT, Nat.reduceLeDiff, Nat.reduceSub, Nat.reduceEqDiff, Nat.reduceMul, Int.reduceAdd, Int.reduceLT, Int.reduceLE, Int.reduceNeg, Int.reduceEq, Int.reduceSub, decide_true, decide_false, decide_eq_true_eq, cond_true, cond_false, Int.reducePow, r1, r2, s_em, n1]
  · have hs : w ∈ signsL := h.resolve_left hr
    rw [sign_kind hs]
    obtain ⟨c, r, ew, hc⟩ := sign_head hs
    have r1 := run_ok (K := k) (p := p) (r := []) (q := w ++ f) (by omega) hT e rfl (fun d hd => by rw [ew] at hd; injection hd with hd; rw [← hd]; exact hc)
    have n1 := ne_tx [] []
    rw [decide_eq_true rfl] at n1
    have b2 : bopD .add (.int (p.length : Int)) (.int 2) = some (.val (.int ((p.length : Int) + 2))) := rfl
    have sl := slc_at (p := p) (r := w ++ f) (i := p.length) (j := (p.length : Int) + 2) 2 (by rw [← e]; exact lT) rfl rfl
    rw [← e] at sl
    have lg := long_in ((w ++ f).take 2)
    by_cases two : w ∈ [[61, 61], [33, 61], [60, 61], [62, 61]]
    · have e2 : (w ++ f).take 2 = w := by
        simp only [List.mem_cons, List.not_mem_nil, or_false] at two
        rcases two with rfl | rfl | rfl | rfl <;> rfl
      rw [e2] at sl lg
      rw [decide_eq_true two] at lg
      simp only [EV0, EV1, List.nodup_nil, List.nodup_cons, List.not_mem_nil, List.mem_cons, or_false, Nat.sub_self, Nat.add_one_sub_one, Nat.zero_lt_succ, if_true, if_false, eq_self_iff_true, reduceIte, reduceCtorEq, Nat.zero_le, slv, not_false_eq_true, and_self, and_true, true_and, Bool.not_true, Bool.not_false, beq_self_eq_true, Nat.reduceAdd, Nat.reduceLT, Nat.reduceLeDiff, Nat.reduceSub, Nat.reduceEqDiff, Nat.reduceMul, Int.reduceAdd, Int.reduceLT, Int.reduceLE, Int.reduceNeg, Int.reduceEq, Int.reduceSub, decide_true, decide_false, decide_eq_true_eq, cond_true, cond_false, Int.reducePow, r1, s_em, n1, b2, sl, lg, g3]
    · have one : w = [c] ∧ c ∈ shortL ∧ c ≠ 33 := by
        unfold signsL at hs
        simp only [List.mem_cons, List.not_mem_nil, or_false] at hs two
        rcases hs with rfl | rfl | rfl | rfl | rfl | rfl | rfl | rfl | rfl | rfl | rfl | rfl | rfl | rfl | rfl | rfl | rfl | rfl <;> first
          | (cases ew; exact ⟨rfl, by decide, by decide⟩)
          | (exfalso; exact two (by simp))
      obtain ⟨e1, sc, n33⟩ := one
      subst e1
      have e2 : ¬ (([c] ++ f).take 2 ∈ [[61, 61], [33, 61], [60, 61], [62, 61]]) := by
        intro z
        cases f with
        | nil => simp at z
        | cons d f =>
          simp only [List.cons_append, List.nil_append, List.take_succ_cons, List.take_zero, List.mem_cons, List.not_mem_nil, or_false, List.cons.injEq, and_true] at z
          have hh := hf.2
          simp only [List.head?_cons, List.mem_cons, List.not_mem_nil, or_false, List.cons.injEq, and_true, Option.some.injEq, ne_eq] at hh
          rcases z with ⟨z1, z2⟩ | ⟨z1, z2⟩ | ⟨z1, z2⟩ | ⟨z1, z2⟩
          · exact hh (.inl z1) z2
          · exact n33 z1
          · exact hh (.inr (.inl z1)) z2
          · exact hh (.inr (.inr z1)) z2
      rw [decide_eq_false e2] at lg
      have sb := sub_tx (p := p) (q := f) (c := c) (by rw [show p ++ c :: f = T from e.symm]; exact lT)
      rw [show p ++ c :: f = T from e.symm] at sb
      have si := in_tx c shortL
      rw [decide_eq_true sc] at si
      clear e2
      generalize ([c] ++ f).take 2 = tw at *
      simp only [EV0, EV1, List.nodup_nil, List.nodup_cons, List.not_mem_nil, List.mem_cons, or_false, Nat.sub_self, Nat.add_one_sub_one, Nat.zero_lt_succ, if_true, if_false, eq_self_iff_true, reduceIte, reduceCtorEq, Nat.zero_le, slv, not_false_eq_true, and_self, and_true, true_and, Bool.not_true, Bool.not_false, beq_self_eq_true, Nat.reduceAdd, Nat.reduceLT, Nat.reduceLeDiff, Nat.reduceSub, Nat.reduceEqDiff, Nat.reduceMul, Int.reduceAdd, Int.reduceLT, Int.reduceLE, Int.reduceNeg, Int.reduceEq, Int.reduceSub, decide_true, decide_false, decide_eq_true_eq, cond_true, cond_false, Int.reducePow, r1, s_em, n1, b2, sl, lg, g3, g4, sb, si]
/-! the row's end -/
theorem getD_app {p : List Nat} {q : List Nat} (i : Nat) : (S (p ++ q)).cps.getD (p.length + i) 0 = q.getD i 0 := by
  rw [Array.getD_eq_getD_getElem?, List.getD_eq_getElem?_getD]
  show ((p ++ q).toArray[p.length + i]?).getD 0 = _
  rw [List.getElem?_toArray, List.getElem?_append_right (by omega), Nat.add_sub_cancel_left]
theorem find_nl {p b q : List Nat} (hb : 10 ∉ b) (hq : q = [] ∨ q.head? = some 10) :
    (q = [] ∧ Txt.find3 (S (p ++ (b ++ q))) (S [10]) (p.length : Int) = -1) ∨ (q ≠ [] ∧ Txt.find3 (S (p ++ (b ++ q))) (S [10]) (p.length : Int) = ((p.length + b.length : Nat) : Int)) := by
  have fi : fromIndex (S (p ++ (b ++ q))).length (p.length : Int) = p.length := by
    unfold fromIndex
    have : ¬ ((p.length : Int) < 0) := by omega
    rw [if_neg this]; omega
  have hn : ∀ i, i < b.length → (S (p ++ (b ++ q))).cps.getD (p.length + i) 0 ≠ 10 := fun i hi z => by
    rw [getD_app, List.getD_eq_getElem?_getD, List.getElem?_append_left hi, List.getElem?_eq_getElem hi] at z
    exact hb (by rw [← show b[i] = 10 from z]; exact List.getElem_mem hi)
  rcases StrLaws.find3_spec (S (p ++ (b ++ q))) 10 (p.length : Int) with ⟨h1, h2⟩ | ⟨k, h1, h2, h3, h4, h5⟩
  · rw [fi] at h2
    cases q with
    | nil => exact .inl ⟨rfl, h1⟩
    | cons c q =>
      exfalso
      have hc : c = 10 := by rcases hq with z | z <;> simpa using z
      refine h2 (p.length + b.length) (by omega) (by rw [SX.S_len]; simp) ?_
      rw [getD_app, List.getD_eq_getElem?_getD, List.getElem?_append_right (Nat.le_refl _), Nat.sub_self]
      exact hc
  · rw [fi] at h2 h5
    have kb : ¬ (k < p.length + b.length) := fun z => hn (k - p.length) (by omega) (by rw [show p.length + (k - p.length) = k by omega]; exact h4)
    cases q with
    | nil =>
      exfalso
      rw [SX.S_len] at h3
      simp only [List.length_append, List.length_nil] at h3
      omega
    | cons c q =>
      refine .inr ⟨by simp, ?_⟩
      have hc : c = 10 := by rcases hq with z | z <;> simpa using z
      have kk : ¬ (p.length + b.length < k) := fun z => h5 (p.length + b.length) (by omega) z (by
        rw [getD_app, List.getD_eq_getElem?_getD, List.getElem?_append_right (Nat.le_refl _), Nat.sub_self]
        exact hc)
      rw [show p.length + b.length = k by omega]
      exact h1
theorem row_ok {K : Nat} (hK : 1 ≤ K) {T p b q : List Nat} (hT : T.length ≤ 100000) (e : T = p ++ (b ++ q)) (hb : 10 ∉ b) (hq : q = [] ∨ q.head? = some 10) :
    fnK rs glK K 4 [.val (tx T), .val (.int (p.length : Int))] = some (.val (.int ((p ++ b).length : Int)), [.un, .un]) := by
  obtain ⟨k, rfl⟩ : ∃ k, K = k + 1 := ⟨K - 1, by omega⟩
  have ln := len_tx (Nat.le_trans hT (by decide))
  rw [run4]
  rcases find_nl (p := p) hb hq with ⟨h1, h2⟩ | ⟨h1, h2⟩
  · rw [← e] at h2
    have m : mtD .find (S T) [tx [10], .int (p.length : Int)] = some (.val (.int (-1))) := by
      simp only [mtD, tx]
      rw [h2]
    have e1 : (T.length : Int) = ((p ++ b).length : Int) := by rw [e, h1]; simp
    have c1 : copD .lt (.int (-1)) (.int 0) = some true := rfl
    rw [e1] at ln
    simp only [EV0, EV1, List.nodup_nil, List.nodup_cons, List.not_mem_nil, List.mem_cons, or_false, Nat.sub_self, Nat.add_one_sub_one, Nat.zero_lt_succ, if_true, if_false, eq_self_iff_true, reduceIte, reduceCtorEq, Nat.zero_le, slv, not_false_eq_true, and_self, and_true, true_and, Bool.not_true, Bool.not_false, beq_self_eq_true, Nat.reduceAdd, Nat.reduceLT, Nat.reduceLeDiff, Nat.reduceSub, Nat.reduceEqDiff, Nat.reduceMul, Int.reduceAdd, Int.reduceLT, Int.reduceLE, Int.reduceNeg, Int.reduceEq, Int.reduceSub, decide_true, decide_false, decide_eq_true_eq, cond_true, cond_false, Int.reducePow, s_nl, m, c1, ln]
  · rw [← e] at h2
    have m : mtD .find (S T) [tx [10], .int (p.length : Int)] = some (.val (.int ((p ++ b).length : Int))) := by
      simp only [mtD, tx]
      rw [h2, List.length_append]
    have c1 : copD .lt (.int ((p ++ b).length : Int)) (.int 0) = some false := by simp only [copD]; rw [decide_eq_false (by omega)]
    simp only [EV0, EV1, List.nodup_nil, List.nodup_cons, List.not_mem_nil, List.mem_cons, or_false, Nat.sub_self, Nat.add_one_sub_one, Nat.zero_lt_succ, if_true, if_false, eq_self_iff_true, reduceIte, reduceCtorEq, Nat.zero_le, slv, not_false_eq_true, and_self, and_true, true_and, Bool.not_true, Bool.not_false, beq_self_eq_true, Nat.reduceAdd, Nat.reduceLT, Nat.reduceLeDiff, Nat.reduceSub, Nat.reduceEqDiff, Nat.reduceMul, Int.reduceAdd, Int.reduceLT, Int.reduceLE, Int.reduceNeg, Int.reduceEq, Int.reduceSub, decide_true, decide_false, decide_eq_true_eq, cond_true, cond_false, Int.reducePow, s_nl, m, c1]
end Lw

set_option Elab.async false
set_option linter.all false
set_option maxRecDepth 100000
set_option maxHeartbeats 2000000
namespace Lw
open PySem PySem.Spec PyProof.Rows L2 Dv Lc
/-! places -/
def mv1 (x : Nat × Nat) (c : Nat) : Nat × Nat := if c = 10 then (x.1 + 1, 1) else (x.1, x.2 + 1)
def mv (x : Nat × Nat) (l : List Nat) : Nat × Nat := l.foldl mv1 x
theorem mv_app (x : Nat × Nat) (a b : List Nat) : mv x (a ++ b) = mv (mv x a) b := List.foldl_append ..
theorem mv_nil (x : Nat × Nat) : mv x [] = x := rfl
theorem mv_free : ∀ (b : List Nat) (x : Nat × Nat), 10 ∉ b → mv x b = (x.1, x.2 + b.length)
  | [], x, _ => rfl
  | c :: b, x, h => by
    have h1 : c ≠ 10 := fun z => h (by rw [z]; exact List.mem_cons_self ..)
    have h2 : 10 ∉ b := fun z => h (List.mem_cons_of_mem _ z)
    show mv (mv1 x c) b = _
    rw [mv1, if_neg h1, mv_free b _ h2, List.length_cons]
    simp only [Prod.mk.injEq, true_and]
    omega
theorem mv_shift : ∀ (b : List Nat) (r c k : Nat), mv (r + k, c) b = ((mv (r, c) b).1 + k, (mv (r, c) b).2)
  | [], r, c, k => rfl
  | d :: b, r, c, k => by
    show mv (mv1 (r + k, c) d) b = ((mv (mv1 (r, c) d) b).1 + k, (mv (mv1 (r, c) d) b).2)
    unfold mv1
    by_cases h : d = 10
    · rw [if_pos h, if_pos h]
      show mv (r + k + 1, 1) b = ((mv (r + 1, 1) b).1 + k, (mv (r + 1, 1) b).2)
      rw [show r + k + 1 = r + 1 + k by omega]
      exact mv_shift b (r + 1) 1 k
    · rw [if_neg h, if_neg h]
      exact mv_shift b r (c + 1) k
def pos (p : List Nat) : Nat × Nat := mv (1, 1) p
/-! what is passed over -/
inductive Sk : List Nat → List Nat → Prop
  | nil {f : List Nat} : Sk [] f
  | sp {g f : List Nat} : Sk g f → Sk (32 :: g) f
  | nl {g f : List Nat} : Sk g f → Sk (10 :: g) f
  | rem {b g f : List Nat} : 10 ∉ b → (g ++ f = [] ∨ (g ++ f).head? = some 10) → Sk g f → Sk (35 :: (b ++ g)) f
def stt (T : List Nat) (tk : List PD) (p : List Nat) (s5 s6 : Slo) : DEn :=
  [.val (tx T), .own none tk, .val (.int ((pos p).1 : Int)), .val (.int ((p.length : Int) + 1 - ((pos p).2 : Int))), .val (.int (p.length : Int)), s5, s6]
abbrev tC : Ir := (.cmp .lt (.var 4) (.prim .len (.cons (.var 0) .nil)))
abbrev tB : Ir := (.cons (.ifs (.cmp .eq (.sub (.var 0) (.var 4)) (.str "\n")) (.cons (.aug 2 true (.int 1)) (.cons (.aug 4 true (.int 1)) (.cons (.set 3 false (.var 4)) .nil))) (.cons (.ifs (.cmp .eq (.sub (.var 0) (.var 4)) (.str " ")) (.cons (.aug 4 true (.int 1)) .nil) (.cons (.ifs (.cmp .eq (.sub (.var 0) (.var 4)) (.str "#")) (.cons (.set 4 false (.call 4 (.cons (.var 0) (.cons (.var 4) .nil)))) .nil) (.cons (.unp (.tup (.cons (.var 5) (.cons (.var 6) .nil))) (.call 3 (.cons (.var 0) (.cons (.var 4) .nil)))) (.cons (.ex (.app 1 (.tup (.cons (.var 5) (.cons (.var 6) (.cons (.var 2) (.cons (.bin .add (.bin .sub (.var 4) (.var 3)) (.int 1)) .nil))))))) (.cons (.ifs (.cmp .eq (.var 5) (.str "bad")) (.cons (.ret (.var 1)) .nil) .nil) (.cons (.aug 4 true (.prim .len (.cons (.var 6) .nil))) .nil))))) .nil)) .nil)) .nil)
section
variable {k : Nat} {T : List Nat} (hT : T.length ≤ 100000)
include hT
theorem cond_ok (C : Cfg) {p q : List Nat} {c : Nat} (e : T = p ++ c :: q) (tk : List PD) (s5 s6 : Slo) : evX C tC (stt T tk p s5 s6) = some (.val (.bool true), stt T tk p s5 s6) := by
  have ln := len_tx (Nat.le_trans hT (by decide))
  have c1 : (p.length : Int) < (T.length : Int) := by rw [e, List.length_append, List.length_cons]; omega
  have cA : copD .lt (.int (p.length : Int)) (.int (T.length : Int)) = some true := by simp only [copD, decide_eq_true c1]
  unfold stt
  simp only [EV0, EV1, List.nodup_nil, List.nodup_cons, List.not_mem_nil, List.mem_cons, or_false, Nat.sub_self, Nat.add_one_sub_one, Nat.zero_lt_succ, if_true, if_false, eq_self_iff_true, reduceIte, reduceCtorEq, Nat.zero_le, slv, not_false_eq_true, and_self, and_true, true_and, Bool.not_true, Bool.not_false, beq_self_eq_true, Nat.reduceAdd, Nat.reduceLT, Nat.reduceLeDiff, Nat.reduceSub, Nat.reduceEqDiff, Nat.reduceMul, Int.reduceAdd, Int.reduceLT, Int.reduceLE, Int.reduceNeg, Int.reduceEq, Int.reduceSub, decide_true, decide_false, decide_eq_true_eq, cond_true, cond_false, Int.reducePow, ln, cA]
theorem nl_ok (C : Cfg) {p q : List Nat} (e : T = p ++ 10 :: q) (tk : List PD) (s5 s6 : Slo) : evS C tB (stt T tk p s5 s6) = some (.nx (stt T tk (p ++ [10]) s5 s6)) := by
  have sb := sub_tx (p := p) (q := q) (c := 10) (by rw [← e]; exact Nat.le_trans hT (by decide))
  rw [← e] at sb
  have e1 := eq_tx [10] [10]
  rw [decide_eq_true rfl] at e1
  have p1 : pos (p ++ [10]) = ((pos p).1 + 1, 1) := by unfold pos; rw [mv_app]; rfl
  have i1 : (((pos p).1 + 1 : Nat) : Int) = ((pos p).1 : Int) + 1 := by omega
  have i2 : ((p ++ [10]).length : Int) + 1 - ((1 : Nat) : Int) = (p.length : Int) + 1 := by simp only [List.length_append, List.length_cons, List.length_nil]; omega
  have i3 : ((p ++ [10]).length : Int) = (p.length : Int) + 1 := by simp
  unfold stt
  rw [p1]
  dsimp only
  rw [i1, i2, i3]
  simp only [EV0, EV1, List.nodup_nil, List.nodup_cons, List.not_mem_nil, List.mem_cons, or_false, Nat.sub_self, Nat.add_one_sub_one, Nat.zero_lt_succ, if_true, if_false, eq_self_iff_true, reduceIte, reduceCtorEq, Nat.zero_le, slv, not_false_eq_true, and_self, and_true, true_and, Bool.not_true, Bool.not_false, beq_self_eq_true, Nat.reduceAdd, Nat.reduceLT, Nat.reduceLeDiff, Nat.reduceSub, Nat.reduceEqDiff, Nat.reduceMul, Int.reduceAdd, Int.reduceLT, Int.reduceLE, Int.reduceNeg, Int.reduceEq, Int.reduceSub, decide_true, decide_false, decide_eq_true_eq, cond_true, cond_false, Int.reducePow, sb, s_nl, e1]
theorem sp_ok (C : Cfg) {p q : List Nat} (e : T = p ++ 32 :: q) (tk : List PD) (s5 s6 : Slo) : evS C tB (stt T tk p s5 s6) = some (.nx (stt T tk (p ++ [32]) s5 s6)) := by
  have sb := sub_tx (p := p) (q := q) (c := 32) (by rw [← e]; exact Nat.le_trans hT (by decide))
  rw [← e] at sb
  have e1 := eq_tx [32] [10]
  rw [decide_eq_false (by decide)] at e1
  have e2 := eq_tx [32] [32]
  rw [decide_eq_true rfl] at e2
  have p1 : pos (p ++ [32]) = ((pos p).1, (pos p).2 + 1) := by unfold pos; rw [mv_app]; rfl
  have i2 : ((p ++ [32]).length : Int) + 1 - (((pos p).2 + 1 : Nat) : Int) = (p.length : Int) + 1 - ((pos p).2 : Int) := by simp only [List.length_append, List.length_cons, List.length_nil]; omega
  have i3 : ((p ++ [32]).length : Int) = (p.length : Int) + 1 := by simp
  unfold stt
  rw [p1]
  dsimp only
  rw [i2, i3]
  simp only [EV0, EV1, List.nodup_nil, List.nodup_cons, List.not_mem_nil, List.mem_cons, or_false, Nat.sub_self, Nat.add_one_sub_one, Nat.zero_lt_succ, if_true, if_false, eq_self_iff_true, reduceIte, reduceCtorEq, Nat.zero_le, slv, not_false_eq_true, and_self, and_true, true_and, Bool.not_true, Bool.not_false, beq_self_eq_true, Nat.reduceAdd, Nat.reduceLT, Nat.reduceLeDiff, Nat.reduceSub, Nat.reduceEqDiff, Nat.reduceMul, Int.reduceAdd, Int.reduceLT, Int.reduceLE, Int.reduceNeg, Int.reduceEq, Int.reduceSub, decide_true, decide_false, decide_eq_true_eq, cond_true, cond_false, Int.reducePow, sb, s_nl, s_sp, e1, e2]
theorem rem_ok (hk : 1 ≤ k) {p b q : List Nat} (e : T = p ++ 35 :: (b ++ q)) (hb : 10 ∉ b) (hq : q = [] ∨ q.head? = some 10) (tk : List PD) (s5 s6 : Slo) :
    evS ⟨fnK rs glK k, glK⟩ tB (stt T tk p s5 s6) = some (.nx (stt T tk (p ++ 35 :: b) s5 s6)) := by
  have sb := sub_tx (p := p) (q := b ++ q) (c := 35) (by rw [← e]; exact Nat.le_trans hT (by decide))
  rw [← e] at sb
  have hb' : 10 ∉ 35 :: b := fun z => by
    rcases List.mem_cons.mp z with z | z
    · exact absurd z (by decide)
    · exact hb z
  have e1 := eq_tx [35] [10]
  rw [decide_eq_false (by decide)] at e1
  have e2 := eq_tx [35] [32]
  rw [decide_eq_false (by decide)] at e2
  have e3 := eq_tx [35] [35]
  rw [decide_eq_true rfl] at e3
  have r := row_ok (K := k) hk (p := p) (b := 35 :: b) (q := q) hT (by rw [e]; rfl) hb' hq
  have p1 : pos (p ++ 35 :: b) = ((pos p).1, (pos p).2 + (35 :: b).length) := by unfold pos; rw [mv_app, mv_free _ _ hb']
  have i2 : ((p ++ 35 :: b).length : Int) + 1 - (((pos p).2 + (35 :: b).length : Nat) : Int) = (p.length : Int) + 1 - ((pos p).2 : Int) := by simp only [List.length_append, List.length_cons]; omega
  unfold stt
  rw [p1]
  dsimp only
  rw [i2]
  generalize ((p ++ 35 :: b).length : Int) = L at *
  simp only [EV0, EV1, List.nodup_nil, List.nodup_cons, List.not_mem_nil, List.mem_cons, or_false, Nat.sub_self, Nat.add_one_sub_one, Nat.zero_lt_succ, if_true, if_false, eq_self_iff_true, reduceIte, reduceCtorEq, Nat.zero_le, slv, not_false_eq_true, and_self, and_true, true_and, Bool.not_true, Bool.not_false, beq_self_eq_true, Nat.reduceAdd, Nat.reduceLT, Nat.reduceLeDiff, Nat.reduceSub, Nat.reduceEqDiff, Nat.reduceMul, Int.reduceAdd, Int.reduceLT, Int.reduceLE, Int.reduceNeg, Int.reduceEq, Int.reduceSub, decide_true, decide_false, decide_eq_true_eq, cond_true, cond_false, Int.reducePow, sb, s_nl, s_sp, s_ha, e1, e2, e3, r]
theorem skip_ok (hk : 1 ≤ k) (tk : List PD) (s5 s6 : Slo) {g f : List Nat} (h : Sk g f) : ∀ (p : List Nat) (n : Nat), T = p ++ (g ++ f) → g.length ≤ n →
    ∃ m, n ≤ m + g.length ∧ whS ⟨fnK rs glK k, glK⟩ tC tB n (stt T tk p s5 s6) = whS ⟨fnK rs glK k, glK⟩ tC tB m (stt T tk (p ++ g) s5 s6) := by
  induction h with
  | nil => intro p n e hn; exact ⟨n, by omega, by rw [List.append_nil]⟩
  | @sp g f _ ih =>
    intro p n e hn
    simp only [List.length_cons] at hn
    obtain ⟨n, rfl⟩ : ∃ m, n = m + 1 := ⟨n - 1, by omega⟩
    obtain ⟨m, hm, w⟩ := ih (p ++ [32]) n (by rw [e]; simp) (by omega)
    refine ⟨m, by simp only [List.length_cons]; omega, ?_⟩
    rw [wh_go (cond_ok hT _ e tk s5 s6) (sp_ok hT _ e tk s5 s6), w]
    simp
  | @nl g f _ ih =>
    intro p n e hn
    simp only [List.length_cons] at hn
    obtain ⟨n, rfl⟩ : ∃ m, n = m + 1 := ⟨n - 1, by omega⟩
    obtain ⟨m, hm, w⟩ := ih (p ++ [10]) n (by rw [e]; simp) (by omega)
    refine ⟨m, by simp only [List.length_cons]; omega, ?_⟩
    rw [wh_go (cond_ok hT _ e tk s5 s6) (nl_ok hT _ e tk s5 s6), w]
    simp
  | @rem b g f hb hq _ ih =>
    intro p n e hn
    simp only [List.length_cons, List.length_append] at hn
    obtain ⟨n, rfl⟩ : ∃ m, n = m + 1 := ⟨n - 1, by omega⟩
    have e' : T = p ++ 35 :: (b ++ (g ++ f)) := by rw [e]; simp
    obtain ⟨m, hm, w⟩ := ih (p ++ 35 :: b) n (by rw [e]; simp) (by omega)
    refine ⟨m, by simp only [List.length_cons, List.length_append]; omega, ?_⟩
    rw [wh_go (cond_ok hT _ e' tk s5 s6) (rem_ok hT hk e' hb hq tk s5 s6), w]
    simp
end
/-! a token's turn -/
structure Tok where
  kd : Str
  w : List Nat
  r : Nat
  c : Nat
def enT (t : Tok) : PD := .tuple [.str t.kd, tx t.w, .int (t.r : Int), .int (t.c : Int)]
theorem good_head {w : List Nat} (h : Good w) : ∃ c r, w = c :: r ∧ c ≠ 10 ∧ c ≠ 32 ∧ c ≠ 35 := by
  rcases h with h | h
  · obtain ⟨h1, h2, _⟩ := h
    cases w with
    | nil => exact absurd rfl h1
    | cons c w =>
      rw [List.all_cons, Bool.and_eq_true, runC_iff] at h2
      exact ⟨c, w, rfl, by omega, by omega, by omega⟩
  · unfold signsL at h
    simp only [List.mem_cons, List.not_mem_nil, or_false] at h
    rcases h with rfl | rfl | rfl | rfl | rfl | rfl | rfl | rfl | rfl | rfl | rfl | rfl | rfl | rfl | rfl | rfl | rfl | rfl <;> exact ⟨_, _, rfl, by decide, by decide, by decide⟩
theorem good_free {w : List Nat} (h : Good w) : 10 ∉ w := by
  rcases h with h | h
  · intro z
    have := (List.all_eq_true.mp h.2.1) 10 z
    rw [runC_iff] at this
    omega
  · unfold signsL at h
    simp only [List.mem_cons, List.not_mem_nil, or_false] at h
    rcases h with rfl | rfl | rfl | rfl | rfl | rfl | rfl | rfl | rfl | rfl | rfl | rfl | rfl | rfl | rfl | rfl | rfl | rfl <;> decide
theorem kind_bad (w : List Nat) : copD .eq (.str (kindL w)) (.str "bad") = some false := by
  unfold kindL
  split
  · rfl
  · split
    · rfl
    · split <;> rfl
theorem turn_ok {k : Nat} (hk : 3 ≤ k) {T p w f : List Nat} (hT : T.length ≤ 100000) (e : T = p ++ (w ++ f)) (h : Good w) (hf : Fol w f) (tk : List PD) (ht : tk.length ≤ 100000) (s5 s6 : Slo) :
    evS ⟨fnK rs glK k, glK⟩ tB (stt T tk p s5 s6) = some (.nx (stt T (tk ++ [enT ⟨kindL w, w, (pos p).1, (pos p).2⟩]) (p ++ w) (.val (.str (kindL w))) (.val (tx w)))) := by
  obtain ⟨c, r, ew, n1, n2, n3⟩ := good_head h
  have sb := sub_tx (p := p) (q := r ++ f) (c := c) (by rw [← List.cons_append, ← ew, ← e]; exact Nat.le_trans hT (by decide))
  rw [← List.cons_append, ← ew, ← e] at sb
  have e1 := eq_tx [c] [10]
  rw [decide_eq_false (by intro z; injection z with z; exact n1 z)] at e1
  have e2 := eq_tx [c] [32]
  rw [decide_eq_false (by intro z; injection z with z; exact n2 z)] at e2
  have e3 := eq_tx [c] [35]
  rw [decide_eq_false (by intro z; injection z with z; exact n3 z)] at e3
  have tok := token_ok hk hT e h hf
  have kb := kind_bad w
  have lw : w.length ≤ 100000 := by rw [e] at hT; simp only [List.length_append] at hT; omega
  have ln := len_tx (l := w) (Nat.le_trans lw (by decide))
  have p1 : pos (p ++ w) = ((pos p).1, (pos p).2 + w.length) := by unfold pos; rw [mv_app, mv_free _ _ (good_free h)]
  have i2 : ((p ++ w).length : Int) + 1 - (((pos p).2 + w.length : Nat) : Int) = (p.length : Int) + 1 - ((pos p).2 : Int) := by simp only [List.length_append]; omega
  have i3 : ((p ++ w).length : Int) = (p.length : Int) + (w.length : Int) := by simp
  have i4 : bopD .sub (.int (p.length : Int)) (.int ((p.length : Int) + 1 - ((pos p).2 : Int))) = some (.val (.int ((pos p).2 - 1 : Int))) := by
    simp only [bopD]
    rw [show (p.length : Int) - ((p.length : Int) + 1 - ((pos p).2 : Int)) = (pos p).2 - 1 by omega]
  have i5 : bopD .add (.int ((pos p).2 - 1 : Int)) (.int 1) = some (.val (.int (pos p).2)) := by
    simp only [bopD]
    rw [show ((pos p).2 : Int) - 1 + 1 = (pos p).2 by omega]
  have lt : tk.length < 16777216 := by omega
  unfold stt
  rw [p1]
  dsimp only
  rw [i2, i3]
  clear i2 i3 p1
  simp only [EV0, EV1, List.nodup_nil, List.nodup_cons, List.not_mem_nil, List.mem_cons, or_false, Nat.sub_self, Nat.add_one_sub_one, Nat.zero_lt_succ, if_true, if_false, eq_self_iff_true, reduceIte, reduceCtorEq, Nat.zero_le, slv, not_false_eq_true, and_self, and_true, true_and, Bool.not_true, Bool.not_false, beq_self_eq_true, Nat.reduceAdd, Nat.reduceLT, Nat.reduceLeDiff, Nat.reduceSub, Nat.reduceEqDiff, Nat.reduceMul, Int.reduceAdd, Int.reduceLT, Int.reduceLE, Int.reduceNeg, Int.reduceEq, Int.reduceSub, decide_true, decide_false, decide_eq_true_eq, cond_true, cond_false, Int.reducePow, sb, s_nl, s_sp, s_ha, e1, e2, e3, tok, i4, i5, lt, kb, ln, enT]
end Lw

set_option Elab.async false
set_option linter.all false
set_option maxRecDepth 100000
set_option maxHeartbeats 2000000
namespace Lw
open PySem PySem.Spec PyProof.Rows L2 Dv Lc
abbrev Pc := List Nat × List Nat
def flat : List Pc → List Nat
  | [] => []
  | x :: l => x.1 ++ (x.2 ++ flat l)
theorem flat_app : ∀ a b, flat (a ++ b) = flat a ++ flat b
  | [], b => rfl
  | x :: a, b => by rw [List.cons_append, flat, flat, flat_app a b, List.append_assoc, List.append_assoc]
inductive OkL : List Pc → List Nat → Prop
  | nil {t : List Nat} : Sk t [] → OkL [] t
  | cons {g w : List Nat} {l : List Pc} {t : List Nat} : Sk g (w ++ (flat l ++ t)) → Good w → Fol w (flat l ++ t) → OkL l t → OkL ((g, w) :: l) t
def tks : Nat × Nat → List Pc → List Tok
  | _, [] => []
  | x, (g, w) :: l => ⟨kindL w, w, (mv x g).1, (mv x g).2⟩ :: tks (mv (mv x g) w) l
theorem tks_len : ∀ l x, (tks x l).length = l.length
  | [], x => rfl
  | (g, w) :: l, x => by rw [tks, List.length_cons, List.length_cons, tks_len l]
theorem tks_app : ∀ (a b : List Pc) x, tks x (a ++ b) = tks x a ++ tks (mv x (flat a)) b
  | [], b, x => rfl
  | (g, w) :: a, b, x => by rw [List.cons_append, tks, tks, tks_app a b, flat, List.cons_append, mv_app, mv_app]
theorem end_cond {T : List Nat} (hT : T.length ≤ 100000) (C : Cfg) (tk : List PD) (s5 s6 : Slo) : evX C tC (stt T tk T s5 s6) = some (.val (.bool false), stt T tk T s5 s6) := by
  have ln := len_tx (Nat.le_trans hT (by decide))
  have cA : copD .lt (.int (T.length : Int)) (.int (T.length : Int)) = some false := by simp only [copD]; rw [decide_eq_false (by omega)]
  unfold stt
  simp only [EV0, EV1, List.nodup_nil, List.nodup_cons, List.not_mem_nil, List.mem_cons, or_false, Nat.sub_self, Nat.add_one_sub_one, Nat.zero_lt_succ, if_true, if_false, eq_self_iff_true, reduceIte, reduceCtorEq, Nat.zero_le, slv, not_false_eq_true, and_self, and_true, true_and, Bool.not_true, Bool.not_false, beq_self_eq_true, Nat.reduceAdd, Nat.reduceLT, Nat.reduceLeDiff, Nat.reduceSub, Nat.reduceEqDiff, Nat.reduceMul, Int.reduceAdd, Int.reduceLT, Int.reduceLE, Int.reduceNeg, Int.reduceEq, Int.reduceSub, decide_true, decide_false, decide_eq_true_eq, cond_true, cond_false, Int.reducePow, ln, cA]
theorem list_loop {k : Nat} (hk : 3 ≤ k) {T : List Nat} (hT : T.length ≤ 100000) {l : List Pc} {t : List Nat} (h : OkL l t) : ∀ (p : List Nat) (n : Nat) (tk : List PD) (s5 s6 : Slo), T = p ++ (flat l ++ t) → (flat l ++ t).length < n → tk.length + l.length ≤ 100000 →
    ∃ s5' s6', whS ⟨fnK rs glK k, glK⟩ tC tB n (stt T tk p s5 s6) = some (.nx (stt T (tk ++ (tks (pos p) l).map enT) T s5' s6')) := by
  induction h with
  | @nil t ht =>
    intro p n tk s5 s6 e hn hl
    rw [flat, List.nil_append] at e hn
    have e' : T = p ++ (t ++ []) := by rw [List.append_nil]; exact e
    obtain ⟨m, hm, w⟩ := skip_ok hT (k := k) (by omega) tk s5 s6 ht p n e' (by omega)
    obtain ⟨m, rfl⟩ : ∃ q, m = q + 1 := ⟨m - 1, by omega⟩
    refine ⟨s5, s6, ?_⟩
    rw [w, ← e, wh_end (end_cond hT _ tk s5 s6), tks, List.map_nil, List.append_nil]
  | @cons g w l t hs hw hf _ ih =>
    intro p n tk s5 s6 e hn hl
    have e1 : T = p ++ (g ++ (w ++ (flat l ++ t))) := by rw [e, flat]; simp
    have n1 : (g ++ (w ++ (flat l ++ t))).length < n := by rw [flat] at hn; simpa using hn
    obtain ⟨c, r, ew, _⟩ := good_head hw
    simp only [List.length_append] at n1
    obtain ⟨m, hm, wk⟩ := skip_ok hT (k := k) (by omega) tk s5 s6 hs p n e1 (by omega)
    have lw : 0 < w.length := by rw [ew]; simp
    obtain ⟨m, rfl⟩ : ∃ q, m = q + 1 := ⟨m - 1, by omega⟩
    have e2 : T = (p ++ g) ++ (w ++ (flat l ++ t)) := by rw [e1]; simp
    have e3 : T = (p ++ g) ++ c :: (r ++ (flat l ++ t)) := by rw [e2, ew]; rfl
    simp only [List.length_cons] at hl
    have tn := turn_ok hk hT e2 hw hf tk (by omega) s5 s6
    obtain ⟨u, v, q⟩ := ih (p ++ g ++ w) m (tk ++ [enT ⟨kindL w, w, (pos (p ++ g)).1, (pos (p ++ g)).2⟩]) (.val (.str (kindL w))) (.val (tx w)) (by rw [e2]; simp) (by simp only [List.length_append]; omega) (by simp only [List.length_append, List.length_cons, List.length_nil]; omega)
    refine ⟨u, v, ?_⟩
    rw [wk, wh_go (cond_ok hT _ e3 tk s5 s6) tn, q, tks]
    have p1 : pos (p ++ g) = mv (pos p) g := mv_app _ _ _
    have p2 : pos (p ++ g ++ w) = mv (mv (pos p) g) w := by unfold pos; rw [mv_app, mv_app]
    rw [p1, p2, List.map_cons, List.append_assoc, List.singleton_append]
def enE (T : List Nat) : PD := enT ⟨"end", [], (pos T).1, (pos T).2⟩
theorem list_ok {K : Nat} (hK : 4 ≤ K) {l : List Pc} {t : List Nat} (h : OkL l t) (hT : (flat l ++ t).length ≤ 100000) (hl : l.length ≤ 50000) :
    fnK rs glK K 5 [.val (tx (flat l ++ t))] = some (.own none ((tks (1, 1) l).map enT ++ [enE (flat l ++ t)]), [.un]) := by
  obtain ⟨k, rfl⟩ : ∃ k, K = k + 1 := ⟨K - 1, by omega⟩
  generalize e : flat l ++ t = T at *
  obtain ⟨u, v, lp⟩ := list_loop (k := k) (by omega) hT h [] wfuel [] .un .un (by rw [e]; rfl) (by rw [e]; unfold wfuel; omega) (by simp only [List.length_nil]; omega)
  have st0 : stt T [] [] .un .un = [.val (tx T), .own none [], .val (.int 1), .val (.int 0), .val (.int 0), .un, .un] := rfl
  rw [st0, List.nil_append, show pos [] = (1, 1) from rfl] at lp
  have lt : ((tks (1, 1) l).map enT).length < 16777216 := by rw [List.length_map, tks_len]; omega
  have i4 : bopD .sub (.int (T.length : Int)) (.int ((T.length : Int) + 1 - ((pos T).2 : Int))) = some (.val (.int ((pos T).2 - 1 : Int))) := by
    simp only [bopD]
    rw [show (T.length : Int) - ((T.length : Int) + 1 - ((pos T).2 : Int)) = (pos T).2 - 1 by omega]
  have i5 : bopD .add (.int ((pos T).2 - 1 : Int)) (.int 1) = some (.val (.int (pos T).2)) := by
    simp only [bopD]
    rw [show ((pos T).2 : Int) - 1 + 1 = (pos T).2 by omega]
  generalize (tks (1, 1) l).map enT = X at *
  unfold stt at lp
  rw [run5]
  simp only [EV0, EV1, List.nodup_nil, List.nodup_cons, List.not_mem_nil, List.mem_cons, or_false, Nat.sub_self, Nat.add_one_sub_one, Nat.zero_lt_succ, if_true, if_false, eq_self_iff_true, reduceIte, reduceCtorEq, Nat.zero_le, slv, not_false_eq_true, and_self, and_true, true_and, Bool.not_true, Bool.not_false, beq_self_eq_true, Nat.reduceAdd, Nat.reduceLT, Nat.reduceLeDiff, Nat.reduceSub, Nat.reduceEqDiff, Nat.reduceMul, Int.reduceAdd, Int.reduceLT, Int.reduceLE, Int.reduceNeg, Int.reduceEq, Int.reduceSub, decide_true, decide_false, decide_eq_true_eq, cond_true, cond_false, Int.reducePow, lp, i4, i5, lt, enE, enT, s_em]
/-! gaps -/
theorem sk_app {g1 f1 : List Nat} (h : Sk g1 f1) : ∀ {g2 f : List Nat}, f1 = g2 ++ f → Sk g2 f → Sk (g1 ++ g2) f := by
  induction h with
  | nil => intro g2 f _ h2; exact h2
  | sp _ ih => intro g2 f e h2; exact .sp (ih e h2)
  | nl _ ih => intro g2 f e h2; exact .nl (ih e h2)
  | @rem b g f1 hb hq _ ih =>
    intro g2 f e h2
    rw [List.cons_append, List.append_assoc]
    exact .rem hb (by rw [List.append_assoc, ← e]; exact hq) (ih e h2)
theorem sk_ext {g e : List Nat} (h : Sk g e) : ∀ f, e = [] → Sk g (10 :: f) := by
  induction h with
  | nil => intro f _; exact .nil
  | sp _ ih => intro f e; exact .sp (ih f e)
  | nl _ ih => intro f e; exact .nl (ih f e)
  | @rem b g f1 hb hq _ ih =>
    intro f e
    subst e
    refine .rem hb (.inr ?_) (ih f rfl)
    rw [List.append_nil] at hq
    cases g with
    | nil => rfl
    | cons c g =>
      rcases hq with z | z
      · cases z
      · exact z
def headS (g : List Nat) : Prop := ∀ c, g.head? = some c → c = 10 ∨ c = 32 ∨ c = 35
end Lw

set_option Elab.async false
set_option linter.all false
set_option maxRecDepth 100000
set_option maxHeartbeats 2000000
namespace Lw
open PySem PySem.Spec PyProof.Rows L2 Dv Lc
theorem run6 (k : Nat) (as : DEn) : fnK rs glK (k + 1) 6 as = runF ⟨fnK rs glK k, glK⟩ 2 2 Lc.ir__law_cell as := rfl
theorem run7 (k : Nat) (as : DEn) : fnK rs glK (k + 1) 7 as = runF ⟨fnK rs glK k, glK⟩ 2 7 Lc.ir__law_draws as := rfl
theorem run8 (k : Nat) (as : DEn) : fnK rs glK (k + 1) 8 as = runF ⟨fnK rs glK k, glK⟩ 1 1 ir__law_is_integer as := rfl
theorem run9 (k : Nat) (as : DEn) : fnK rs glK (k + 1) 9 as = runF ⟨fnK rs glK k, glK⟩ 0 0 ir__law_keywords as := rfl
theorem run10 (k : Nat) (as : DEn) : fnK rs glK (k + 1) 10 as = runF ⟨fnK rs glK k, glK⟩ 3 5 ir__law_run as := rfl
theorem run11 (k : Nat) (as : DEn) : fnK rs glK (k + 1) 11 as = runF ⟨fnK rs glK k, glK⟩ 2 5 ir__law_number as := rfl
theorem run12 (k : Nat) (as : DEn) : fnK rs glK (k + 1) 12 as = runF ⟨fnK rs glK k, glK⟩ 4 8 ir__law_word as := rfl
theorem run13 (k : Nat) (as : DEn) : fnK rs glK (k + 1) 13 as = runF ⟨fnK rs glK k, glK⟩ 1 1 ir__law_kind as := rfl
theorem run14 (k : Nat) (as : DEn) : fnK rs glK (k + 1) 14 as = runF ⟨fnK rs glK k, glK⟩ 2 4 ir__law_remark as := rfl
theorem run15 (k : Nat) (as : DEn) : fnK rs glK (k + 1) 15 as = runF ⟨fnK rs glK k, glK⟩ 2 3 ir__law_touch as := rfl
theorem run16 (k : Nat) (as : DEn) : fnK rs glK (k + 1) 16 as = runF ⟨fnK rs glK k, glK⟩ 2 3 ir__law_moved as := rfl
theorem run17 (k : Nat) (as : DEn) : fnK rs glK (k + 1) 17 as = runF ⟨fnK rs glK k, glK⟩ 4 14 ir__law_pieces as := rfl
theorem run18 (k : Nat) (as : DEn) : fnK rs glK (k + 1) 18 as = runF ⟨fnK rs glK k, glK⟩ 2 9 ir__law_text as := rfl
theorem run19 (k : Nat) (as : DEn) : fnK rs glK (k + 1) 19 as = runF ⟨fnK rs glK k, glK⟩ 2 2 ir__law_tail as := rfl
theorem run20 (k : Nat) (as : DEn) : fnK rs glK (k + 1) 20 as = runF ⟨fnK rs glK k, glK⟩ 2 4 ir__law_same as := rfl
theorem run21 (k : Nat) (as : DEn) : fnK rs glK (k + 1) 21 as = runF ⟨fnK rs glK k, glK⟩ 1 11 ir_law as := rfl
theorem run22 (k : Nat) (as : DEn) : fnK rs glK (k + 1) 22 as = runF ⟨fnK rs glK k, glK⟩ 2 4 ir__law_same_lv as := rfl
theorem cell_ok {K : Nat} (hK : 1 ≤ K) (ns : List Int) (i : Nat) : ∃ c : Int, fnK rs glK K 6 [.val (.list (ns.map PyData.int)), .val (.int (i : Int))] = some (.val (.int c), [.un, .un]) := by
  obtain ⟨k, rfl⟩ : ∃ k, K = k + 1 := ⟨K - 1, by omega⟩
  rw [run6]; exact cell_run _ ns i
theorem draws_ok {K : Nat} (hK : 1 ≤ K) (cell : Int) (many : Nat) (hm : many ≤ 5000) : ∃ ds : List Nat, ds.length = many ∧ (∀ d ∈ ds, d < 1000) ∧ fnK rs glK K 7 [.val (.int cell), .val (.int (many : Int))] = some (.own none (ds.map iN), [.un, .un]) := by
  obtain ⟨k, rfl⟩ : ∃ k, K = k + 1 := ⟨K - 1, by omega⟩
  rw [run7]; exact draws_run _ cell many hm
theorem int_ok {K : Nat} (hK : 1 ≤ K) (i : Int) : fnK rs glK K 8 [.val (.int i)] = some (.val (.bool true), [.un]) := by
  obtain ⟨k, rfl⟩ : ∃ k, K = k + 1 := ⟨K - 1, by omega⟩
  rw [run8]
  simp only [EV0, EV1, List.nodup_nil, List.nodup_cons, List.not_mem_nil, List.mem_cons, or_false, Nat.sub_self, Nat.add_one_sub_one, Nat.zero_lt_succ, if_true, if_false, eq_self_iff_true, reduceIte, reduceCtorEq, Nat.zero_le, slv, not_false_eq_true, and_self, and_true, true_and, Bool.not_true, Bool.not_false, beq_self_eq_true, Nat.reduceAdd, Nat.reduceLT, Nat.reduceLeDiff, Nat.reduceSub, Nat.reduceEqDiff, Nat.reduceMul, Int.reduceAdd, Int.reduceLT, Int.reduceLE, Int.reduceNeg, Int.reduceEq, Int.reduceSub, decide_true, decide_false, decide_eq_true_eq, cond_true, cond_false, Int.reducePow, isiD, tyOk, List.any_cons, List.any_nil, Bool.or_false, Bool.or_self]
theorem kws_ok {K : Nat} (hK : 1 ≤ K) : fnK rs glK K 9 [] = some (.own none kwL, []) := by
  obtain ⟨k, rfl⟩ : ∃ k, K = k + 1 := ⟨K - 1, by omega⟩
  rw [run9]
  rfl
def dl (ds : List Nat) : PD := .list (ds.map iN)
theorem sub_dl {ds : List Nat} {i : Int} (j : Nat) (hi : i = (j : Int)) (h : j < ds.length) : subD (dl ds) (.int i) = some (.int (ds[j] : Int)) := by
  subst hi
  show atI _ _ = _
  exact atN (by rw [List.getElem?_map, List.getElem?_eq_getElem h]; rfl)
theorem sub_txN {l : List Nat} {i : Int} {c : Nat} (hl : l.length ≤ 16777216) (j : Nat) (hi : i = (j : Int)) (h : l[j]? = some c) : subD (tx l) (.int i) = some (tx [c]) := by
  subst hi
  have q : (S l).length ≤ sizeLine := by rw [SX.S_len]; exact hl
  simp only [subD, tx, if_pos q]
  rw [atN h]
  rfl
/-! a run -/
def runL : List Nat := smallL ++ digL
theorem s_run : ("abcdefghijklmnopqrstuvwxyz0123456789" : Str) = S runL := by decide +kernel
theorem runL_get (j : Nat) (h : j < 36) : ∃ c, runL[j]? = some c ∧ runC c = true ∧ (j < 26 → smallC c = true) := by
  have : ∀ j, j < 36 → (match runL[j]? with | some c => runC c && (decide (26 ≤ j) || smallC c) | none => false) = true := by decide
  have q := this j h
  split at q
  · rename_i c e
    rw [Bool.and_eq_true, Bool.or_eq_true, decide_eq_true_eq] at q
    exact ⟨c, e, q.1, fun z => q.2.resolve_left (by omega)⟩
  · cases q
def elR : Ir := (.sub (.var 3) (.bin .mod (.prim .int (.cons (.sub (.var 0) (.bin .add (.var 1) (.var 4))) .nil)) (.sub (.lst (.cons (.int 36) (.cons (.int 26) .nil))) (.prim .int (.cons (.cmp .eq (.var 4) (.int 0)) .nil)))))
theorem elR_ok (C : Cfg) (ds : List Nat) (at_ k : Nat) (m : Slo) (h : at_ + k < ds.length) : ∃ c, runC c = true ∧ (k = 0 → smallC c = true) ∧
    evX C elR [.val (dl ds), .val (.int (at_ : Int)), m, .val (tx runL), .val (.int (k : Int))] = some (.val (tx [c]), [.val (dl ds), .val (.int (at_ : Int)), m, .val (tx runL), .val (.int (k : Int))]) := by
  have sd := sub_dl (ds := ds) (i := (at_ : Int) + (k : Int)) (at_ + k) (by omega) h
  have b1 : bopD .add (.int (at_ : Int)) (.int (k : Int)) = some (.val (.int ((at_ : Int) + (k : Int)))) := rfl
  generalize ds[at_ + k] = d at sd
  have pI : prD .int [.int (d : Int)] = some (.val (.int (d : Int))) := rfl
  by_cases hk : k = 0
  · have e1 : copD .eq (.int (k : Int)) (.int 0) = some true := by simp only [copD, eqD, beqT (show (k : Int) = 0 by omega)]
    have e2 : prD .int [.bool true] = some (.val (.int 1)) := rfl
    have e3 : subD (.list [.int 36, .int 26]) (.int 1) = some (.int 26) := rfl
    have e4 : bopD .mod (.int (d : Int)) (.int 26) = some (.val (.int ((d : Int) % 26))) := rfl
    obtain ⟨c, h1, h2, h3⟩ := runL_get (d % 26) (by omega)
    have e5 := sub_txN (l := runL) (i := (d : Int) % 26) (by decide) (d % 26) (by omega) h1
    refine ⟨c, h2, fun _ => h3 (by omega), ?_⟩
    unfold elR dl at *
    simp only [EV0, EV1, List.nodup_nil, List.nodup_cons, List.not_mem_nil, List.mem_cons, or_false, Nat.sub_self, Nat.add_one_sub_one, Nat.zero_lt_succ, if_true, if_false, eq_self_iff_true, reduceIte, reduceCtorEq, Nat.zero_le, slv, not_false_eq_true, and_self, and_true, true_and, Bool.not_true, Bool.not_false, beq_self_eq_true, Nat.reduceAdd, Nat.reduceLT, Nat.reduceLeDiff, Nat.reduceSub, Nat.reduceEqDiff, Nat.reduceMul, Int.reduceAdd, Int.reduceLT, Int.reduceLE, Int.reduceNeg, Int.reduceEq, Int.reduceSub, decide_true, decide_false, decide_eq_true_eq, cond_true, cond_false, Int.reducePow, b1, sd, pI, e1, e2, e3, e4, e5]
  · have e1 : copD .eq (.int (k : Int)) (.int 0) = some false := by simp only [copD, eqD, beqF (show (k : Int) ≠ 0 by omega)]
    have e2 : prD .int [.bool false] = some (.val (.int 0)) := rfl
    have e3 : subD (.list [.int 36, .int 26]) (.int 0) = some (.int 36) := rfl
    have e4 : bopD .mod (.int (d : Int)) (.int 36) = some (.val (.int ((d : Int) % 36))) := rfl
    obtain ⟨c, h1, h2, h3⟩ := runL_get (d % 36) (by omega)
    have e5 := sub_txN (l := runL) (i := (d : Int) % 36) (by decide) (d % 36) (by omega) h1
    refine ⟨c, h2, fun z => absurd z hk, ?_⟩
    unfold elR dl at *
    simp only [EV0, EV1, List.nodup_nil, List.nodup_cons, List.not_mem_nil, List.mem_cons, or_false, Nat.sub_self, Nat.add_one_sub_one, Nat.zero_lt_succ, if_true, if_false, eq_self_iff_true, reduceIte, reduceCtorEq, Nat.zero_le, slv, not_false_eq_true, and_self, and_true, true_and, Bool.not_true, Bool.not_false, beq_self_eq_true, Nat.reduceAdd, Nat.reduceLT, Nat.reduceLeDiff, Nat.reduceSub, Nat.reduceEqDiff, Nat.reduceMul, Int.reduceAdd, Int.reduceLT, Int.reduceLE, Int.reduceNeg, Int.reduceEq, Int.reduceSub, decide_true, decide_false, decide_eq_true_eq, cond_true, cond_false, Int.reducePow, b1, sd, pI, e1, e2, e3, e4, e5]
theorem runw_ok {K : Nat} (hK : 1 ≤ K) (ds : List Nat) (at_ m : Nat) (hm : 1 ≤ m ∧ m ≤ 100) (h : at_ + m ≤ ds.length) : ∃ r : List Nat, r.length = m ∧ r.all runC = true ∧ headC smallC r = true ∧
    fnK rs glK K 10 [.val (dl ds), .val (.int (at_ : Int)), .val (.int (m : Int))] = some (.val (tx r), [.un, .un, .un]) := by
  obtain ⟨k, rfl⟩ : ∃ k, K = k + 1 := ⟨K - 1, by omega⟩
  have hC := fun j (hj : j ∈ List.range m) => elR_ok ⟨fnK rs glK k, glK⟩ ds at_ j (.val (.int (m : Int))) (by have := List.mem_range.mp hj; omega)
  obtain ⟨cs, hc⟩ := pick (List.range m) hC
  have hl : cs.length = m := by rw [hc.len, List.length_range]
  have ha : cs.all runC = true := List.all_eq_true.mpr (hc.all fun _ _ q => q.1)
  have hh : headC smallC cs = true := by
    obtain ⟨m, rfl⟩ : ∃ q, m = q + 1 := ⟨m - 1, by omega⟩
    rw [List.range_succ_eq_map] at hc
    cases hc with
    | cons q _ => exact q.2.1 rfl
  refine ⟨cs, hl, ha, hh, ?_⟩
  have f2 : F2 (fun d x => ∃ ρ1 ρ3, asg (.var 4) d [.val (dl ds), .val (.int (at_ : Int)), .val (.int (m : Int)), .val (tx runL), .un] = some ρ1 ∧ evX ⟨fnK rs glK k, glK⟩ elR ρ1 = some (.val x, ρ3)) ((List.range m).map fun (k : Nat) => PyData.int (k : Int)) ((cs.map fun c => [c]).map tx) := by
    rw [List.map_map]
    exact hc.flip.maps fun j c q => ⟨_, _, rfl, q.2.2⟩
  have cm := cm_all ⟨fnK rs glK k, glK⟩ (.var 4) elR _ _ _ [] f2 (by simp only [List.length_nil, List.length_map, List.length_range]; omega)
  rw [List.nil_append] at cm
  have sm : ∀ l : List Nat, ((l.map fun c => [c]).map List.length).sum = l.length := fun l => by
    induction l with
    | nil => rfl
    | cons x l ih => rw [List.map_cons, List.map_cons, List.sum_cons, ih, List.length_cons]; simp; omega
  have fl : ∀ l : List Nat, (l.map fun c => [c]).flatten = l := fun l => by
    induction l with
    | nil => rfl
    | cons x l ih => rw [List.map_cons, List.flatten_cons, ih]; rfl
  have jn := join_tx (ys := cs.map fun c => [c]) (a := []) (by rw [sm]; simp only [List.length_nil, Nat.mul_zero]; omega)
  rw [joinL_nil, fl] at jn
  have rg := eI_rngN (C := ⟨fnK rs glK k, glK⟩) (m := true) (a := .var 2) (ρ := [.val (dl ds), .val (.int (at_ : Int)), .val (.int (m : Int)), .val (tx runL), .un]) (ρ1 := [.val (dl ds), .val (.int (at_ : Int)), .val (.int (m : Int)), .val (tx runL), .un]) (n := m) (by simp only [EV0, EV1, List.nodup_nil, List.nodup_cons, List.not_mem_nil, List.mem_cons, or_false, Nat.sub_self, Nat.add_one_sub_one, Nat.zero_lt_succ, if_true, if_false, eq_self_iff_true, reduceIte, reduceCtorEq, Nat.zero_le, slv, not_false_eq_true, and_self, and_true, true_and, Bool.not_true, Bool.not_false, beq_self_eq_true, Nat.reduceAdd, Nat.reduceLT, Nat.reduceLeDiff, Nat.reduceSub, Nat.reduceEqDiff, Nat.reduceMul, Int.reduceAdd, Int.reduceLT, Int.reduceLE, Int.reduceNeg, Int.reduceEq, Int.reduceSub, decide_true, decide_false, decide_eq_true_eq, cond_true, cond_false, Int.reducePow]) (by omega)
  have cp : evX ⟨fnK rs glK k, glK⟩ (.comp (.var 4) (.rng1 (.var 2)) (.bl true) elR [4]) [.val (dl ds), .val (.int (at_ : Int)), .val (.int (m : Int)), .val (tx runL), .un] = some (.own none ((cs.map fun c => [c]).map tx), [.val (dl ds), .val (.int (at_ : Int)), .val (.int (m : Int)), .val (tx runL), .un]) := by
    rw [eX_comp, rg]
    dsimp only
    rw [show blkD [.val (dl ds), .val (.int (at_ : Int)), .val (.int (m : Int)), .val (tx runL), .un] [4] = [.val (dl ds), .val (.int (at_ : Int)), .val (.int (m : Int)), .val (tx runL), .un] from rfl, cm]
  unfold elR at cp
  generalize (cs.map fun c => [c]).map tx = Z at *
  rw [run10]
  generalize dl ds = D at *
  simp only [EV0, EV1, List.nodup_nil, List.nodup_cons, List.not_mem_nil, List.mem_cons, or_false, Nat.sub_self, Nat.add_one_sub_one, Nat.zero_lt_succ, if_true, if_false, eq_self_iff_true, reduceIte, reduceCtorEq, Nat.zero_le, slv, not_false_eq_true, and_self, and_true, true_and, Bool.not_true, Bool.not_false, beq_self_eq_true, Nat.reduceAdd, Nat.reduceLT, Nat.reduceLeDiff, Nat.reduceSub, Nat.reduceEqDiff, Nat.reduceMul, Int.reduceAdd, Int.reduceLT, Int.reduceLE, Int.reduceNeg, Int.reduceEq, Int.reduceSub, decide_true, decide_false, decide_eq_true_eq, cond_true, cond_false, Int.reducePow, s_run, s_em, cp, jn]
/-! a number -/
theorem numL_head : ∀ n : Nat, 0 < n → (TL.numL n).head? ≠ some 48 := by
  intro n
  induction n using Nat.strongRecOn with
  | _ n ih =>
    intro h z
    by_cases h9 : n < 10
    · rw [TL.numL_lt h9] at z
      simp only [List.head?_cons, Option.some.injEq] at z
      omega
    · rw [TL.numL_step (by omega), List.head?_append] at z
      have := TL.numL_ne (n / 10)
      cases e : (TL.numL (n / 10)).head? with
      | none => exact this (List.head?_eq_none_iff.mp e)
      | some c =>
        rw [e] at z
        exact ih (n / 10) (by omega) (by omega) (by rw [e]; exact z)
theorem numL_num {n : Nat} (h : n < 1000000000) : numOk (TL.numL n) = true := by
  have l := TL.numL_len (n := n) (k := 9) (by decide) h
  have d := TL.numL_digits n
  have ne := TL.numL_ne n
  unfold numOk
  simp only [Bool.and_eq_true, Bool.not_eq_true', decide_eq_true_eq]
  refine ⟨⟨⟨by cases z : TL.numL n with
    | nil => exact absurd z ne
    | cons _ _ => rfl, l⟩, List.all_eq_true.mpr fun c hc => (digC_iff c).mpr (by have := d c hc; omega)⟩, ?_⟩
  by_cases hn : n = 0
  · subst hn
    rw [TL.numL_lt (by omega)]
    decide
  · rw [decide_eq_false (numL_head n (by omega)), Bool.false_and]
def pwL : List Nat := [1, 10, 100, 1000, 10000, 100000, 1000000, 10000000, 100000000]
theorem lawnum_ok {K : Nat} (hK : 1 ≤ K) (ds : List Nat) (hd : ∀ d ∈ ds, d < 1000) (at_ : Nat) (h : at_ + 3 ≤ ds.length) : ∃ w : List Nat, numOk w = true ∧
    fnK rs glK K 11 [.val (dl ds), .val (.int (at_ : Int))] = some (.val (tx w), [.un, .un]) := by
  obtain ⟨k, rfl⟩ : ∃ k, K = k + 1 := ⟨K - 1, by omega⟩
  have s0 := sub_dl (ds := ds) (i := (at_ : Int)) at_ rfl (by omega)
  have s1 := sub_dl (ds := ds) (i := (at_ : Int) + 1) (at_ + 1) (by omega) (by omega)
  have s2 := sub_dl (ds := ds) (i := (at_ : Int) + 2) (at_ + 2) (by omega) (by omega)
  have d0 := hd _ (List.getElem_mem (l := ds) (n := at_) (by omega))
  have d1 := hd _ (List.getElem_mem (l := ds) (n := at_ + 1) (by omega))
  have d2 := hd _ (List.getElem_mem (l := ds) (n := at_ + 2) (by omega))
  generalize ds[at_] = a at s0 d0
  generalize ds[at_ + 1] = b at s1 d1
  generalize ds[at_ + 2] = c at s2 d2
  have i1 : bopD .add (.int (at_ : Int)) (.int 1) = some (.val (.int ((at_ : Int) + 1))) := rfl
  have i2 : bopD .add (.int (at_ : Int)) (.int 2) = some (.val (.int ((at_ : Int) + 2))) := rfl
  have pI : ∀ d : Nat, prD .int [.int (d : Int)] = some (.val (.int (d : Int))) := fun _ => rfl
  have m1 : bopD .mul (.int (a : Int)) (.int 1000000) = some (.val (.int ((a : Int) * 1000000))) := by simp only [bopD]; rw [if_pos (.inr (by decide))]
  have m2 : bopD .mul (.int (b : Int)) (.int 1000) = some (.val (.int ((b : Int) * 1000))) := by simp only [bopD]; rw [if_pos (.inr (by decide))]
  have a1 : bopD .add (.int ((a : Int) * 1000000)) (.int ((b : Int) * 1000)) = some (.val (.int ((a : Int) * 1000000 + (b : Int) * 1000))) := rfl
  have a2 : bopD .add (.int ((a : Int) * 1000000 + (b : Int) * 1000)) (.int (c : Int)) = some (.val (.int ((a * 1000000 + b * 1000 + c : Nat) : Int))) := by
    simp only [bopD]
    rw [show (a : Int) * 1000000 + (b : Int) * 1000 + (c : Int) = ((a * 1000000 + b * 1000 + c : Nat) : Int) by omega]
  have mo : bopD .mod (.int (c : Int)) (.int 12) = some (.val (.int ((c : Int) % 12))) := rfl
  have mo9 : bopD .mod (.int (b : Int)) (.int 9) = some (.val (.int ((b : Int) % 9))) := rfl
  rw [run11]
  by_cases h3 : c % 12 < 3
  · have lt : copD .lt (.int ((c : Int) % 12)) (.int 3) = some true := by simp only [copD]; rw [decide_eq_true (by omega)]
    have sel : ∃ w, numOk w = true ∧ subD (.list [.str "0", .str "999999999", .str "100000000"]) (.int ((c : Int) % 12)) = some (tx w) := by
      have e1 : ("0" : Str) = S [48] := by decide +kernel
      have e2 : ("999999999" : Str) = S [57, 57, 57, 57, 57, 57, 57, 57, 57] := by decide +kernel
      have e3 : ("100000000" : Str) = S [49, 48, 48, 48, 48, 48, 48, 48, 48] := by decide +kernel
      rw [e1, e2, e3]
      have cs : (c : Int) % 12 = 0 ∨ (c : Int) % 12 = 1 ∨ (c : Int) % 12 = 2 := by omega
      rcases cs with e | e | e
      · exact ⟨[48], by decide, by rw [e]; rfl⟩
      · exact ⟨[57, 57, 57, 57, 57, 57, 57, 57, 57], by decide, by rw [e]; rfl⟩
      · exact ⟨[49, 48, 48, 48, 48, 48, 48, 48, 48], by decide, by rw [e]; rfl⟩
    obtain ⟨w, h1, h2⟩ := sel
    refine ⟨w, h1, ?_⟩
    unfold dl at *
    simp only [EV0, EV1, List.nodup_nil, List.nodup_cons, List.not_mem_nil, List.mem_cons, or_false, Nat.sub_self, Nat.add_one_sub_one, Nat.zero_lt_succ, if_true, if_false, eq_self_iff_true, reduceIte, reduceCtorEq, Nat.zero_le, slv, not_false_eq_true, and_self, and_true, true_and, Bool.not_true, Bool.not_false, beq_self_eq_true, Nat.reduceAdd, Nat.reduceLT, Nat.reduceLeDiff, Nat.reduceSub, Nat.reduceEqDiff, Nat.reduceMul, Int.reduceAdd, Int.reduceLT, Int.reduceLE, Int.reduceNeg, Int.reduceEq, Int.reduceSub, decide_true, decide_false, decide_eq_true_eq, cond_true, cond_false, Int.reducePow, i1, i2, s0, s1, s2, pI, m1, m2, a1, a2, mo, lt, h2]
  · have lt : copD .lt (.int ((c : Int) % 12)) (.int 3) = some false := by simp only [copD]; rw [decide_eq_false (by omega)]
    have sel : ∃ j : Nat, 1 ≤ j ∧ j < 1000000000 ∧ subD (.list [.int 1, .int 10, .int 100, .int 1000, .int 10000, .int 100000, .int 1000000, .int 10000000, .int 100000000]) (.int ((b : Int) % 9)) = some (.int (j : Int)) := by
      have all : ∀ j, j < 9 → ∃ x, pwL[j]? = some x ∧ 1 ≤ x ∧ x < 1000000000 := by
        intro j hj
        have : ∀ j, j < 9 → (match pwL[j]? with | some x => decide (1 ≤ x) && decide (x < 1000000000) | none => false) = true := by decide
        have q := this j hj
        split at q
        · rename_i x e
          rw [Bool.and_eq_true, decide_eq_true_eq, decide_eq_true_eq] at q
          exact ⟨x, e, q⟩
        · cases q
      obtain ⟨x, h1, h2, h4⟩ := all (b % 9) (by omega)
      refine ⟨x, h2, h4, ?_⟩
      rw [show (b : Int) % 9 = ((b % 9 : Nat) : Int) by omega]
      show atI (pwL.map iN) _ = _
      exact atN (by rw [List.getElem?_map, h1]; rfl)
    obtain ⟨j, j1, j2, js⟩ := sel
    have le0 : a * 1000000 + b * 1000 + c < 1000000000 := by omega
    generalize a * 1000000 + b * 1000 + c = N at *
    have dv : bopD .div (.int (N : Int)) (.int (j : Int)) = some (.val (.int ((N / j : Nat) : Int))) := by
      simp only [bopD]
      rw [if_pos (by omega)]
      rfl
    have le : N / j < 1000000000 := Nat.lt_of_le_of_lt (Nat.div_le_self _ _) le0
    generalize N / j = n at dv le
    have st : prD .str [.int (n : Int)] = some (.val (tx (TL.numL n))) := by
      have lg : (n : Int).natAbs.log2 < 1920 := by
        rw [Int.natAbs_natCast]
        by_cases z : n = 0
        · rw [z]; decide
        · exact Nat.lt_trans ((Nat.log2_lt z).mpr (Nat.lt_trans le (by decide : 1000000000 < 2 ^ 64))) (by decide)
      simp only [prD]
      rw [if_pos lg]
      exact congrArg some (congrArg Slo.val (congrArg PyData.str (SX.num_S n)))
    refine ⟨TL.numL n, numL_num le, ?_⟩
    unfold dl at *
    simp only [EV0, EV1, List.nodup_nil, List.nodup_cons, List.not_mem_nil, List.mem_cons, or_false, Nat.sub_self, Nat.add_one_sub_one, Nat.zero_lt_succ, if_true, if_false, eq_self_iff_true, reduceIte, reduceCtorEq, Nat.zero_le, slv, not_false_eq_true, and_self, and_true, true_and, Bool.not_true, Bool.not_false, beq_self_eq_true, Nat.reduceAdd, Nat.reduceLT, Nat.reduceLeDiff, Nat.reduceSub, Nat.reduceEqDiff, Nat.reduceMul, Int.reduceAdd, Int.reduceLT, Int.reduceLE, Int.reduceNeg, Int.reduceEq, Int.reduceSub, decide_true, decide_false, decide_eq_true_eq, cond_true, cond_false, Int.reducePow, i1, i2, s0, s1, s2, pI, m1, m2, a1, a2, mo, mo9, lt, js, dv, st]
end Lw

set_option Elab.async false
set_option linter.all false
set_option maxRecDepth 100000
set_option maxHeartbeats 2000000
namespace Lw
open PySem PySem.Spec PyProof.Rows L2 Dv Lc
theorem runw_small {w : List Nat} (h1 : w.all runC = true) (h2 : headC smallC w = true) (h3 : w.length ≤ 12) : RunW w := by
  cases w with
  | nil => cases h2
  | cons c w =>
    refine ⟨by simp, h1, fun z => ?_, fun _ => h3⟩
    have a := (smallC_iff c).mp h2
    have b := (digC_iff c).mp z
    omega
theorem runw_num {w : List Nat} (h : numOk w = true) : RunW w := by
  have h' := h
  unfold numOk at h
  simp only [Bool.and_eq_true, Bool.not_eq_true', decide_eq_true_eq] at h
  obtain ⟨⟨⟨h1, h2⟩, h3⟩, h4⟩ := h
  refine ⟨fun z => (by rw [z] at h1; cases h1), List.all_eq_true.mpr fun c hc => ?_, fun _ => h', fun _ => by omega⟩
  have := List.all_eq_true.mp h3 c hc
  unfold runC
  rw [this, Bool.or_true]
def kwOk (d : PD) : Bool := match d with
  | .str x => x.cps.toList.all runC && headC smallC x.cps.toList && decide (x.cps.toList.length ≤ 12)
  | _ => false
theorem kw_all : kwL.all kwOk = true := by decide +kernel
theorem kw_len : kwL.length = 51 := by decide +kernel
theorem kw_get (j : Nat) (h : j < 51) : ∃ w : List Nat, kwL[j]? = some (tx w) ∧ w.all runC = true ∧ headC smallC w = true ∧ w.length ≤ 12 := by
  have hj : j < kwL.length := by rw [kw_len]; exact h
  have q := List.all_eq_true.mp kw_all _ (List.getElem_mem hj)
  rw [List.getElem?_eq_getElem hj]
  generalize kwL[j] = d at *
  cases d with
  | str x =>
    simp only [kwOk, Bool.and_eq_true, decide_eq_true_eq] at q
    exact ⟨x.cps.toList, by rw [show tx x.cps.toList = .str x from congrArg PyData.str (SX.S_tl x)], q.1.1, q.1.2, q.2⟩
  | _ => cases q
theorem strs_eq {a : List Str} {b : List (List Nat)} (h : a = b.map S) : a.map PyData.str = b.map tx := by
  rw [h, List.map_map]; rfl
def sgD : List PD := [.str "{", .str "}", .str "(", .str ")", .str ",", .str ";", .str ".", .str "+", .str "-", .str "*", .str "/", .str "=", .str "==", .str "!=", .str "<", .str "<=", .str ">", .str ">="]
theorem sg_eq : sgD = signsL.map tx := strs_eq (a := ["{", "}", "(", ")", ",", ";", ".", "+", "-", "*", "/", "=", "==", "!=", "<", "<=", ">", ">="]) (by decide +kernel)
theorem sg_get (j : Nat) (h : j < 18) : ∃ w : List Nat, sgD[j]? = some (tx w) ∧ w ∈ signsL ∧ w.length ≤ 12 := by
  rw [sg_eq]
  have hj : j < signsL.length := h
  have l : ∀ w ∈ signsL, w.length ≤ 12 := by decide
  exact ⟨signsL[j], by rw [List.getElem?_map, List.getElem?_eq_getElem hj]; rfl, List.getElem_mem hj, l _ (List.getElem_mem hj)⟩
theorem head_app {f : Nat → Bool} {a b : List Nat} (h : headC f a = true) : headC f (a ++ b) = true := by
  cases a with
  | nil => cases h
  | cons c a => exact h
theorem head_take {f : Nat → Bool} {a : List Nat} (h : headC f a = true) : headC f (a.take 12) = true := by
  cases a with
  | nil => cases h
  | cons c a => exact h
theorem all_take {f : Nat → Bool} {a : List Nat} (n : Nat) (h : a.all f = true) : (a.take n).all f = true :=
  List.all_eq_true.mpr fun c hc => List.all_eq_true.mp h c (List.mem_of_mem_take hc)
theorem dig_ok {n : Nat} (h : n < 10) : prD .str [.int (n : Int)] = some (.val (tx [48 + n])) := by
  have lg : (n : Int).natAbs.log2 < 1920 := by
    rw [Int.natAbs_natCast]
    by_cases z : n = 0
    · rw [z]; decide
    · exact Nat.lt_trans ((Nat.log2_lt z).mpr (Nat.lt_trans h (by decide : 10 < 2 ^ 64))) (by decide)
  simp only [prD]
  rw [if_pos lg, ← TL.numL_lt h]
  exact congrArg some (congrArg Slo.val (congrArg PyData.str (SX.num_S n)))
theorem word_ok {K : Nat} (hK : 2 ≤ K) (ds ls : List Nat) (hd : ∀ d ∈ ds, d < 1000) (at_ bg : Nat) (h : at_ + 4 ≤ ds.length) (hl : bg + 12 ≤ ls.length) : ∃ w : List Nat, Good w ∧ w.length ≤ 12 ∧
    fnK rs glK K 12 [.val (dl ds), .val (.int (at_ : Int)), .val (dl ls), .val (.int (bg : Int))] = some (.val (tx w), [.un, .un, .un, .un]) := by
  obtain ⟨k, rfl⟩ : ∃ k, K = k + 1 := ⟨K - 1, by omega⟩
  have s0 := sub_dl (ds := ds) (i := (at_ : Int)) at_ rfl (by omega)
  have s1 := sub_dl (ds := ds) (i := (at_ : Int) + 1) (at_ + 1) (by omega) (by omega)
  have s2 := sub_dl (ds := ds) (i := (at_ : Int) + 2) (at_ + 2) (by omega) (by omega)
  have s3 := sub_dl (ds := ds) (i := (at_ : Int) + 3) (at_ + 3) (by omega) (by omega)
  obtain ⟨wn, wn1, wn2⟩ := lawnum_ok (K := k) (by omega) ds hd (at_ + 1) (by omega)
  generalize ds[at_] = a at s0
  generalize ds[at_ + 1] = b at s1
  generalize ds[at_ + 2] = c at s2
  generalize ds[at_ + 3] = e at s3
  have i1 : bopD .add (.int (at_ : Int)) (.int 1) = some (.val (.int ((at_ : Int) + 1))) := rfl
  have i2 : bopD .add (.int (at_ : Int)) (.int 2) = some (.val (.int ((at_ : Int) + 2))) := rfl
  have i3 : bopD .add (.int (at_ : Int)) (.int 3) = some (.val (.int ((at_ : Int) + 3))) := rfl
  have pI : ∀ d : Nat, prD .int [.int (d : Int)] = some (.val (.int (d : Int))) := fun _ => rfl
  have m6 : bopD .mod (.int (a : Int)) (.int 6) = some (.val (.int ((a % 6 : Nat) : Int))) := rfl
  have m51 : bopD .mod (.int (b : Int)) (.int 51) = some (.val (.int ((b % 51 : Nat) : Int))) := rfl
  have m18 : bopD .mod (.int (b : Int)) (.int 18) = some (.val (.int ((b % 18 : Nat) : Int))) := rfl
  have m12 : bopD .mod (.int (b : Int)) (.int 12) = some (.val (.int ((b % 12 : Nat) : Int))) := rfl
  have m10 : bopD .mod (.int (c : Int)) (.int 10) = some (.val (.int ((c % 10 : Nat) : Int))) := rfl
  have m2 : bopD .mod (.int (e : Int)) (.int 2) = some (.val (.int ((e % 2 : Nat) : Int))) := rfl
  have b6 : a % 6 < 6 := Nat.mod_lt _ (by decide)
  have b51 : b % 51 < 51 := Nat.mod_lt _ (by decide)
  have b18 : b % 18 < 18 := Nat.mod_lt _ (by decide)
  have b12 : b % 12 < 12 := Nat.mod_lt _ (by decide)
  have b10 : c % 10 < 10 := Nat.mod_lt _ (by decide)
  have b2 : e % 2 < 2 := Nat.mod_lt _ (by decide)
  generalize a % 6 = A at *
  generalize b % 51 = B at *
  generalize b % 18 = B' at *
  generalize b % 12 = B'' at *
  generalize c % 10 = C' at *
  generalize e % 2 = E' at *
  have ke := kws_ok (K := k) (by omega)
  obtain ⟨kw, kw1, kw2, kw3, kw4⟩ := kw_get B b51
  have ks : subD (.list kwL) (.int (B : Int)) = some (tx kw) := atN kw1
  rw [run12]
  generalize kwL = KW at *
  by_cases c0 : A = 0
  · subst c0
    have e0 : copD .eq (.int ((0 : Nat) : Int)) (.int 0) = some true := rfl
    refine ⟨kw, .inl (runw_small kw2 kw3 kw4), kw4, ?_⟩
    unfold dl at *
    simp only [EV0, EV1, List.nodup_nil, List.nodup_cons, List.not_mem_nil, List.mem_cons, or_false, Nat.sub_self, Nat.add_one_sub_one, Nat.zero_lt_succ, if_true, if_false, eq_self_iff_true, reduceIte, reduceCtorEq, Nat.zero_le, slv, not_false_eq_true, and_self, and_true, true_and, Bool.not_true, Bool.not_false, beq_self_eq_true, Nat.reduceAdd, Nat.reduceLT, Nat.reduceLeDiff, Nat.reduceSub, Nat.reduceEqDiff, Nat.reduceMul, Int.reduceAdd, Int.reduceLT, Int.reduceLE, Int.reduceNeg, Int.reduceEq, Int.reduceSub, decide_true, decide_false, decide_eq_true_eq, cond_true, cond_false, Int.reducePow, s0, s1, i1, pI, m6, m51, e0, ke, ks]
  have e0 : copD .eq (.int (A : Int)) (.int 0) = some false := by simp only [copD, eqD, beqF (show (A : Int) ≠ 0 by omega)]
  by_cases c3 : A < 3
  · have l3 : copD .lt (.int (A : Int)) (.int 3) = some true := by simp only [copD]; rw [decide_eq_true (by omega)]
    obtain ⟨w, w1, w2, w3⟩ := sg_get B' b18
    have ss : subD (.list sgD) (.int (B' : Int)) = some (tx w) := atN w1
    refine ⟨w, .inr w2, w3, ?_⟩
    unfold dl sgD at *
    simp only [EV0, EV1, List.nodup_nil, List.nodup_cons, List.not_mem_nil, List.mem_cons, or_false, Nat.sub_self, Nat.add_one_sub_one, Nat.zero_lt_succ, if_true, if_false, eq_self_iff_true, reduceIte, reduceCtorEq, Nat.zero_le, slv, not_false_eq_true, and_self, and_true, true_and, Bool.not_true, Bool.not_false, beq_self_eq_true, Nat.reduceAdd, Nat.reduceLT, Nat.reduceLeDiff, Nat.reduceSub, Nat.reduceEqDiff, Nat.reduceMul, Int.reduceAdd, Int.reduceLT, Int.reduceLE, Int.reduceNeg, Int.reduceEq, Int.reduceSub, decide_true, decide_false, decide_eq_true_eq, cond_true, cond_false, Int.reducePow, s0, s1, i1, pI, m6, m18, e0, l3, ss]
  have l3 : copD .lt (.int (A : Int)) (.int 3) = some false := by simp only [copD]; rw [decide_eq_false (by omega)]
  by_cases c33 : A = 3
  · subst c33
    have e3 : copD .eq (.int ((3 : Nat) : Int)) (.int 3) = some true := rfl
    refine ⟨wn, .inl (runw_num wn1), ?_, ?_⟩
    · unfold numOk at wn1
      simp only [Bool.and_eq_true, decide_eq_true_eq] at wn1
      have := wn1.1.1.2
      omega
    · rw [show ((at_ + 1 : Nat) : Int) = (at_ : Int) + 1 by omega] at wn2
      unfold dl at *
      simp only [EV0, EV1, List.nodup_nil, List.nodup_cons, List.not_mem_nil, List.mem_cons, or_false, Nat.sub_self, Nat.add_one_sub_one, Nat.zero_lt_succ, if_true, if_false, eq_self_iff_true, reduceIte, reduceCtorEq, Nat.zero_le, slv, not_false_eq_true, and_self, and_true, true_and, Bool.not_true, Bool.not_false, beq_self_eq_true, Nat.reduceAdd, Nat.reduceLT, Nat.reduceLeDiff, Nat.reduceSub, Nat.reduceEqDiff, Nat.reduceMul, Int.reduceAdd, Int.reduceLT, Int.reduceLE, Int.reduceNeg, Int.reduceEq, Int.reduceSub, decide_true, decide_false, decide_eq_true_eq, cond_true, cond_false, Int.reducePow, s0, s1, i1, pI, m6, e0, l3, e3, wn2]
  have e3 : copD .eq (.int (A : Int)) (.int 3) = some false := by simp only [copD, eqD, beqF (show (A : Int) ≠ 3 by omega)]
  by_cases c4 : A = 4
  · subst c4
    have e4 : copD .eq (.int ((4 : Nat) : Int)) (.int 4) = some true := rfl
    obtain ⟨r, r1, r2, r3, r4⟩ := runw_ok (K := k) (by omega) ls bg 12 (by omega) hl
    rw [show ((12 : Nat) : Int) = 12 from rfl] at r4
    have st := dig_ok b10
    have bh : ∃ bw : List Nat, bw.all runC = true ∧ bw.length ≤ 12 ∧ subD (.list [tx [48 + C'], tx r]) (.int (E' : Int)) = some (tx bw) := by
      have cs : E' = 0 ∨ E' = 1 := by omega
      rcases cs with z | z
      · subst z
        refine ⟨[48 + C'], ?_, by simp, rfl⟩
        rw [List.all_cons, List.all_nil, Bool.and_true, runC_iff]
        omega
      · subst z
        exact ⟨r, r2, by omega, rfl⟩
    obtain ⟨bw, bw1, bw2, bw3⟩ := bh
    have ad := add_tx (a := kw) (b := bw) (by omega)
    have sl := slc_to (r := kw ++ bw) 12 (by rw [List.length_append]; omega)
    rw [show ((12 : Nat) : Int) = 12 from rfl] at sl
    refine ⟨(kw ++ bw).take 12, .inl (runw_small (all_take 12 (by rw [List.all_append, kw2, bw1]; rfl)) (head_take (head_app kw3)) (by rw [List.length_take]; omega)), by rw [List.length_take]; omega, ?_⟩
    unfold dl at *
    simp only [EV0, EV1, List.nodup_nil, List.nodup_cons, List.not_mem_nil, List.mem_cons, or_false, Nat.sub_self, Nat.add_one_sub_one, Nat.zero_lt_succ, if_true, if_false, eq_self_iff_true, reduceIte, reduceCtorEq, Nat.zero_le, slv, not_false_eq_true, and_self, and_true, true_and, Bool.not_true, Bool.not_false, beq_self_eq_true, Nat.reduceAdd, Nat.reduceLT, Nat.reduceLeDiff, Nat.reduceSub, Nat.reduceEqDiff, Nat.reduceMul, Int.reduceAdd, Int.reduceLT, Int.reduceLE, Int.reduceNeg, Int.reduceEq, Int.reduceSub, decide_true, decide_false, decide_eq_true_eq, cond_true, cond_false, Int.reducePow, s0, s1, s2, s3, i1, i2, i3, pI, m6, m51, m10, m2, e0, l3, e3, e4, st, r4, bw3, ke, ks, ad, sl]
  have e4 : copD .eq (.int (A : Int)) (.int 4) = some false := by simp only [copD, eqD, beqF (show (A : Int) ≠ 4 by omega)]
  obtain ⟨r, r1, r2, r3, r4⟩ := runw_ok (K := k) (by omega) ls bg (1 + B'') (by omega) (by omega)
  have ad : bopD .add (.int 1) (.int (B'' : Int)) = some (.val (.int ((1 + B'' : Nat) : Int))) := by simp only [bopD]; rw [show (1 : Int) + (B'' : Int) = ((1 + B'' : Nat) : Int) by omega]
  refine ⟨r, .inl (runw_small r2 r3 (by omega)), by omega, ?_⟩
  unfold dl at *
  simp only [EV0, EV1, List.nodup_nil, List.nodup_cons, List.not_mem_nil, List.mem_cons, or_false, Nat.sub_self, Nat.add_one_sub_one, Nat.zero_lt_succ, if_true, if_false, eq_self_iff_true, reduceIte, reduceCtorEq, Nat.zero_le, slv, not_false_eq_true, and_self, and_true, true_and, Bool.not_true, Bool.not_false, beq_self_eq_true, Nat.reduceAdd, Nat.reduceLT, Nat.reduceLeDiff, Nat.reduceSub, Nat.reduceEqDiff, Nat.reduceMul, Int.reduceAdd, Int.reduceLT, Int.reduceLE, Int.reduceNeg, Int.reduceEq, Int.reduceSub, decide_true, decide_false, decide_eq_true_eq, cond_true, cond_false, Int.reducePow, s0, s1, i1, pI, m6, m12, e0, l3, e3, e4, ad, r4]
/-! kinds -/
theorem s_dig : ("0123456789" : Str) = S digL := by decide +kernel
theorem s_small : ("abcdefghijklmnopqrstuvwxyz" : Str) = S smallL := by decide +kernel
theorem kwl_in (w : List Nat) : copD .isin (tx w) (.list kwL) = some (kwB w) := by
  have e : allScal kwL = true := by decide +kernel
  simp only [copD, tx, scalD, e, and_self, if_true]
  rfl
theorem lawkind_ok {K : Nat} (hK : 2 ≤ K) {w : List Nat} (hw : w ≠ []) (hl : w.length ≤ 100000) : fnK rs glK K 13 [.val (tx w)] = some (.val (.str (kindL w)), [.un]) := by
  obtain ⟨k, rfl⟩ : ∃ k, K = k + 1 := ⟨K - 1, by omega⟩
  cases w with
  | nil => exact absurd rfl hw
  | cons c w =>
    have sb := sub_tx0 (c := c) (q := w) (Nat.le_trans hl (by decide))
    have q1 := in_tx c digL
    rw [show decide (c ∈ digL) = headC digC (c :: w) from rfl] at q1
    have q2 := in_tx c smallL
    rw [show decide (c ∈ smallL) = headC smallC (c :: w) from rfl] at q2
    have q3 := kwl_in (c :: w)
    have ke := kws_ok (K := k) (by omega)
    rw [run13]
    unfold kindL
    generalize c :: w = W at *
    generalize kwL = KW at *
    generalize tx [c] = z at *
    cases h1 : headC digC W with
    | true =>
      rw [h1] at q1
      simp only [EV0, EV1, List.nodup_nil, List.nodup_cons, List.not_mem_nil, List.mem_cons, or_false, Nat.sub_self, Nat.add_one_sub_one, Nat.zero_lt_succ, if_true, if_false, eq_self_iff_true, reduceIte, reduceCtorEq, Nat.zero_le, slv, not_false_eq_true, and_self, and_true, true_and, Bool.not_true, Bool.not_false, beq_self_eq_true, Nat.reduceAdd, Nat.reduceLT, Nat.reduceLeDiff, Nat.reduceSub, Nat.reduceEqDiff, Nat.reduceMul, Int.reduceAdd, Int.reduceLT, Int.reduceLE, Int.reduceNeg, Int.reduceEq, Int.reduceSub, decide_true, decide_false, decide_eq_true_eq, cond_true, cond_false, Int.reducePow, sb, s_dig, q1]
    | false =>
      rw [h1] at q1
      cases h2 : kwB W with
      | true =>
        rw [h2] at q3
        simp only [EV0, EV1, List.nodup_nil, List.nodup_cons, List.not_mem_nil, List.mem_cons, or_false, Nat.sub_self, Nat.add_one_sub_one, Nat.zero_lt_succ, if_true, if_false, eq_self_iff_true, reduceIte, reduceCtorEq, Nat.zero_le, slv, not_false_eq_true, and_self, and_true, true_and, Bool.not_true, Bool.not_false, beq_self_eq_true, Nat.reduceAdd, Nat.reduceLT, Nat.reduceLeDiff, Nat.reduceSub, Nat.reduceEqDiff, Nat.reduceMul, Int.reduceAdd, Int.reduceLT, Int.reduceLE, Int.reduceNeg, Int.reduceEq, Int.reduceSub, decide_true, decide_false, decide_eq_true_eq, cond_true, cond_false, Int.reducePow, sb, s_dig, q1, ke, q3, Bool.false_eq_true]
      | false =>
        rw [h2] at q3
        cases h3 : headC smallC W with
        | true =>
          rw [h3] at q2
          simp only [EV0, EV1, List.nodup_nil, List.nodup_cons, List.not_mem_nil, List.mem_cons, or_false, Nat.sub_self, Nat.add_one_sub_one, Nat.zero_lt_succ, if_true, if_false, eq_self_iff_true, reduceIte, reduceCtorEq, Nat.zero_le, slv, not_false_eq_true, and_self, and_true, true_and, Bool.not_true, Bool.not_false, beq_self_eq_true, Nat.reduceAdd, Nat.reduceLT, Nat.reduceLeDiff, Nat.reduceSub, Nat.reduceEqDiff, Nat.reduceMul, Int.reduceAdd, Int.reduceLT, Int.reduceLE, Int.reduceNeg, Int.reduceEq, Int.reduceSub, decide_true, decide_false, decide_eq_true_eq, cond_true, cond_false, Int.reducePow, sb, s_dig, s_small, q1, q2, ke, q3, Bool.false_eq_true]
        | false =>
          rw [h3] at q2
          simp only [EV0, EV1, List.nodup_nil, List.nodup_cons, List.not_mem_nil, List.mem_cons, or_false, Nat.sub_self, Nat.add_one_sub_one, Nat.zero_lt_succ, if_true, if_false, eq_self_iff_true, reduceIte, reduceCtorEq, Nat.zero_le, slv, not_false_eq_true, and_self, and_true, true_and, Bool.not_true, Bool.not_false, beq_self_eq_true, Nat.reduceAdd, Nat.reduceLT, Nat.reduceLeDiff, Nat.reduceSub, Nat.reduceEqDiff, Nat.reduceMul, Int.reduceAdd, Int.reduceLT, Int.reduceLE, Int.reduceNeg, Int.reduceEq, Int.reduceSub, decide_true, decide_false, decide_eq_true_eq, cond_true, cond_false, Int.reducePow, sb, s_dig, s_small, q1, q2, ke, q3, Bool.false_eq_true]
end Lw

set_option Elab.async false
set_option linter.all false
set_option maxRecDepth 100000
set_option maxHeartbeats 2000000
namespace Lw
open PySem PySem.Spec PyProof.Rows L2 Dv Lc
/-! remarks -/
def chL : List Nat := (" !\"#$&'()*+,-./0123456789:;<=>?@ABCDEFGHIJKLMNOPQRSTUVWXYZ[\\]^_`abcdefghijklmnopqrstuvwxyz{|}~\t" : Str).cps.toList
theorem s_ch : (" !\"#$&'()*+,-./0123456789:;<=>?@ABCDEFGHIJKLMNOPQRSTUVWXYZ[\\]^_`abcdefghijklmnopqrstuvwxyz{|}~\t" : Str) = S chL := (SX.S_tl _).symm
theorem ch_len : chL.length = 95 := by decide +kernel
theorem ch_nl : 10 ∉ chL := by decide +kernel
theorem ch_get (j : Nat) (h : j < 95) : ∃ c, chL[j]? = some c ∧ c ≠ 10 := by
  have hj : j < chL.length := by rw [ch_len]; exact h
  exact ⟨chL[j], List.getElem?_eq_getElem hj, fun z => ch_nl (by rw [← z]; exact List.getElem_mem hj)⟩
def elC : Ir := (.sub (.var 2) (.bin .mod (.prim .int (.cons (.sub (.var 0) (.bin .add (.var 1) (.var 3))) .nil)) (.int 95)))
theorem elC_ok (C : Cfg) (ds : List Nat) (at_ k : Nat) (h : at_ + k < ds.length) : ∃ c, c ≠ 10 ∧
    evX C elC [.val (dl ds), .val (.int (at_ : Int)), .val (tx chL), .val (.int (k : Int))] = some (.val (tx [c]), [.val (dl ds), .val (.int (at_ : Int)), .val (tx chL), .val (.int (k : Int))]) := by
  have sd := sub_dl (ds := ds) (i := (at_ : Int) + (k : Int)) (at_ + k) (by omega) h
  have b1 : bopD .add (.int (at_ : Int)) (.int (k : Int)) = some (.val (.int ((at_ : Int) + (k : Int)))) := rfl
  generalize ds[at_ + k] = d at sd
  have pI : prD .int [.int (d : Int)] = some (.val (.int (d : Int))) := rfl
  have e4 : bopD .mod (.int (d : Int)) (.int 95) = some (.val (.int ((d % 95 : Nat) : Int))) := rfl
  obtain ⟨c, h1, h2⟩ := ch_get (d % 95) (Nat.mod_lt _ (by decide))
  have e5 := sub_txN (l := chL) (i := ((d % 95 : Nat) : Int)) (by rw [ch_len]; decide) (d % 95) rfl h1
  generalize d % 95 = D at *
  generalize chL = L at *
  refine ⟨c, h2, ?_⟩
  unfold elC dl at *
  simp only [EV0, EV1, List.nodup_nil, List.nodup_cons, List.not_mem_nil, List.mem_cons, or_false, Nat.sub_self, Nat.add_one_sub_one, Nat.zero_lt_succ, if_true, if_false, eq_self_iff_true, reduceIte, reduceCtorEq, Nat.zero_le, slv, not_false_eq_true, and_self, and_true, true_and, Bool.not_true, Bool.not_false, beq_self_eq_true, Nat.reduceAdd, Nat.reduceLT, Nat.reduceLeDiff, Nat.reduceSub, Nat.reduceEqDiff, Nat.reduceMul, Int.reduceAdd, Int.reduceLT, Int.reduceLE, Int.reduceNeg, Int.reduceEq, Int.reduceSub, decide_true, decide_false, decide_eq_true_eq, cond_true, cond_false, Int.reducePow, b1, sd, pI, e4, e5]
theorem flat1 : ∀ l : List Nat, (l.map fun c => [c]).flatten = l
  | [] => rfl
  | x :: l => by rw [List.map_cons, List.flatten_cons, flat1 l]; rfl
theorem sum1 : ∀ l : List Nat, ((l.map fun c => [c]).map List.length).sum = l.length
  | [] => rfl
  | x :: l => by rw [List.map_cons, List.map_cons, List.sum_cons, sum1 l, List.length_cons]; simp; omega
theorem remark_ok {K : Nat} (hK : 1 ≤ K) (ds : List Nat) (at_ : Nat) (h : at_ + 7 ≤ ds.length) : ∃ b : List Nat, 10 ∉ b ∧ b.length ≤ 6 ∧
    fnK rs glK K 14 [.val (dl ds), .val (.int (at_ : Int))] = some (.val (tx (35 :: b)), [.un, .un]) := by
  obtain ⟨k, rfl⟩ : ∃ k, K = k + 1 := ⟨K - 1, by omega⟩
  have s6 := sub_dl (ds := ds) (i := (at_ : Int) + 6) (at_ + 6) (by omega) (by omega)
  generalize ds[at_ + 6] = d at s6
  have i6 : bopD .add (.int (at_ : Int)) (.int 6) = some (.val (.int ((at_ : Int) + 6))) := rfl
  have pI : prD .int [.int (d : Int)] = some (.val (.int (d : Int))) := rfl
  have m7 : bopD .mod (.int (d : Int)) (.int 7) = some (.val (.int ((d % 7 : Nat) : Int))) := rfl
  have b7 : d % 7 < 7 := Nat.mod_lt _ (by decide)
  generalize d % 7 = m at *
  obtain ⟨cs, hc⟩ := pick (List.range m) fun j (hj : j ∈ List.range m) => elC_ok ⟨fnK rs glK k, glK⟩ ds at_ j (by have := List.mem_range.mp hj; omega)
  have hl : cs.length = m := by rw [hc.len, List.length_range]
  have hn : 10 ∉ cs := fun z => hc.all (q := fun c => c ≠ 10) (fun _ _ q => q.1) 10 z rfl
  refine ⟨cs, hn, by omega, ?_⟩
  have f2 : F2 (fun d x => ∃ ρ1 ρ3, asg (.var 3) d [.val (dl ds), .val (.int (at_ : Int)), .val (tx chL), .un] = some ρ1 ∧ evX ⟨fnK rs glK k, glK⟩ elC ρ1 = some (.val x, ρ3)) ((List.range m).map fun (k : Nat) => PyData.int (k : Int)) ((cs.map fun c => [c]).map tx) := by
    rw [List.map_map]
    exact hc.flip.maps fun j c q => ⟨_, _, rfl, q.2⟩
  have cm := cm_all ⟨fnK rs glK k, glK⟩ (.var 3) elC _ _ _ [] f2 (by simp only [List.length_nil, List.length_map, List.length_range]; omega)
  rw [List.nil_append] at cm
  have jn := join_tx (ys := cs.map fun c => [c]) (a := []) (by rw [sum1]; simp only [List.length_nil, Nat.mul_zero]; omega)
  rw [joinL_nil, flat1] at jn
  have ad := add_tx (a := [35]) (b := cs) (by simp only [List.length_cons, List.length_nil]; omega)
  rw [List.singleton_append] at ad
  have rg := eI_rngN (C := ⟨fnK rs glK k, glK⟩) (m := true) (a := (.bin .mod (.prim .int (.cons (.sub (.var 0) (.bin .add (.var 1) (.int 6))) .nil)) (.int 7))) (ρ := [.val (dl ds), .val (.int (at_ : Int)), .val (tx chL), .un]) (ρ1 := [.val (dl ds), .val (.int (at_ : Int)), .val (tx chL), .un]) (n := m) (by
    generalize chL = L at *
    unfold dl at *
    simp only [EV0, EV1, List.nodup_nil, List.nodup_cons, List.not_mem_nil, List.mem_cons, or_false, Nat.sub_self, Nat.add_one_sub_one, Nat.zero_lt_succ, if_true, if_false, eq_self_iff_true, reduceIte, reduceCtorEq, Nat.zero_le, slv, not_false_eq_true, and_self, and_true, true_and, Bool.not_true, Bool.not_false, beq_self_eq_true, Nat.reduceAdd, Nat.reduceLT, Nat.reduceLeDiff, Nat.reduceSub, Nat.reduceEqDiff, Nat.reduceMul, Int.reduceAdd, Int.reduceLT, Int.reduceLE, Int.reduceNeg, Int.reduceEq, Int.reduceSub, decide_true, decide_false, decide_eq_true_eq, cond_true, cond_false, Int.reducePow, i6, s6, pI, m7]) (by omega)
  have cp : evX ⟨fnK rs glK k, glK⟩ (.comp (.var 3) (.rng1 (.bin .mod (.prim .int (.cons (.sub (.var 0) (.bin .add (.var 1) (.int 6))) .nil)) (.int 7))) (.bl true) elC [3]) [.val (dl ds), .val (.int (at_ : Int)), .val (tx chL), .un] = some (.own none ((cs.map fun c => [c]).map tx), [.val (dl ds), .val (.int (at_ : Int)), .val (tx chL), .un]) := by
    rw [eX_comp, rg]
    dsimp only
    rw [show blkD [.val (dl ds), .val (.int (at_ : Int)), .val (tx chL), .un] [3] = [.val (dl ds), .val (.int (at_ : Int)), .val (tx chL), .un] from rfl, cm]
  unfold elC at cp
  generalize (cs.map fun c => [c]).map tx = Z at *
  rw [run14]
  clear rg cm f2 hc
  generalize dl ds = D at *
  simp only [EV0, EV1, List.nodup_nil, List.nodup_cons, List.not_mem_nil, List.mem_cons, or_false, Nat.sub_self, Nat.add_one_sub_one, Nat.zero_lt_succ, if_true, if_false, eq_self_iff_true, reduceIte, reduceCtorEq, Nat.zero_le, slv, not_false_eq_true, and_self, and_true, true_and, Bool.not_true, Bool.not_false, beq_self_eq_true, Nat.reduceAdd, Nat.reduceLT, Nat.reduceLeDiff, Nat.reduceSub, Nat.reduceEqDiff, Nat.reduceMul, Int.reduceAdd, Int.reduceLT, Int.reduceLE, Int.reduceNeg, Int.reduceEq, Int.reduceSub, decide_true, decide_false, decide_eq_true_eq, cond_true, cond_false, Int.reducePow, s_ch, s_ha, s_em, cp, jn, ad]
/-! touching -/
def lastC (w : List Nat) : Nat := w.getLastD 0
def touchB (b w : List Nat) : Bool := !decide (b = []) && ((runC (lastC b) && headC runC w) || (decide (b ∈ [[61], [60], [62]]) && headC (fun c => decide (c = 61)) w))
theorem runL_in (c : Nat) : decide (c ∈ runL) = runC c := by
  unfold runL runC smallC digC
  rw [Bool.eq_iff_iff]
  simp
theorem sub_last {l : List Nat} (hn : l ≠ []) (hl : l.length ≤ 100000) : subD (tx l) (.int ((l.length : Int) - 1)) = some (tx [lastC l]) := by
  have p : 0 < l.length := List.length_pos_iff.mpr hn
  refine sub_txN (by omega) (l.length - 1) (by omega) ?_
  unfold lastC
  rw [List.getLastD_eq_getLast?, List.getLast?_eq_getElem?, List.getElem?_eq_getElem (by omega)]
  rfl
theorem eqs_in (w : List Nat) : copD .isin (tx w) (.list [.str "=", .str "<", .str ">"]) = some (decide (w ∈ [[61], [60], [62]])) := by
  have e : allScal [.str "=", .str "<", .str ">"] = true := rfl
  have q : ([.str "=", .str "<", .str ">"] : List PD) = [[61], [60], [62]].map tx := strs_eq (a := ["=", "<", ">"]) (by decide +kernel)
  simp only [copD, tx, scalD, e, and_self, if_true]
  rw [q]
  simp only [inD, tx, List.map_cons, List.map_nil, List.any_cons, List.any_nil, PyData.eqv, SX.S_beq_eq, List.mem_cons, List.not_mem_nil, or_false, Bool.or_false, Bool.decide_or, eq_comm]
theorem s_eq : ("=" : Str) = S [61] := by decide +kernel
theorem touch_ok {K : Nat} (hK : 1 ≤ K) {b w : List Nat} (hw : w ≠ []) (hb : b.length ≤ 100000) (hl : w.length ≤ 100000) : fnK rs glK K 15 [.val (tx b), .val (tx w)] = some (.val (.bool (touchB b w)), [.un, .un]) := by
  obtain ⟨k, rfl⟩ : ∃ k, K = k + 1 := ⟨K - 1, by omega⟩
  rw [run15]
  have e0 := eq_tx b []
  cases w with
  | nil => exact absurd rfl hw
  | cons c w =>
    by_cases hn : b = []
    · rw [decide_eq_true hn] at e0
      unfold touchB
      rw [decide_eq_true hn, Bool.not_true, Bool.false_and]
      generalize c :: w = W at *
      simp only [EV0, EV1, List.nodup_nil, List.nodup_cons, List.not_mem_nil, List.mem_cons, or_false, Nat.sub_self, Nat.add_one_sub_one, Nat.zero_lt_succ, if_true, if_false, eq_self_iff_true, reduceIte, reduceCtorEq, Nat.zero_le, slv, not_false_eq_true, and_self, and_true, true_and, Bool.not_true, Bool.not_false, beq_self_eq_true, Nat.reduceAdd, Nat.reduceLT, Nat.reduceLeDiff, Nat.reduceSub, Nat.reduceEqDiff, Nat.reduceMul, Int.reduceAdd, Int.reduceLT, Int.reduceLE, Int.reduceNeg, Int.reduceEq, Int.reduceSub, decide_true, decide_false, decide_eq_true_eq, cond_true, cond_false, Int.reducePow, s_em, e0]
    · rw [decide_eq_false hn] at e0
      have ln := len_tx (l := b) (by omega)
      have sl := sub_last hn hb
      have sb := sub_tx0 (c := c) (q := w) (Nat.le_trans hl (by decide))
      have q1 := in_tx (lastC b) runL
      rw [runL_in] at q1
      have q2 := in_tx c runL
      rw [runL_in] at q2
      have q3 := eqs_in b
      rw [s_eq] at q3
      have q4 := eq_tx [c] [61]
      have q5 : decide ([c] = [61]) = decide (c = 61) := by rw [Bool.eq_iff_iff]; simp
      rw [q5] at q4
      have i1 : bopD .sub (.int (b.length : Int)) (.int 1) = some (.val (.int ((b.length : Int) - 1))) := rfl
      unfold touchB
      rw [decide_eq_false hn, Bool.not_false, Bool.true_and]
      simp only [headC]
      generalize c :: w = W at sb ⊢
      generalize lastC b = x at *
      generalize decide (c = 61) = u at *
      cases h1 : runC x with
      | true =>
        rw [h1] at q1
        cases h2 : runC c with
        | true =>
          rw [h2] at q2
          simp only [EV0, EV1, List.nodup_nil, List.nodup_cons, List.not_mem_nil, List.mem_cons, or_false, Nat.sub_self, Nat.add_one_sub_one, Nat.zero_lt_succ, if_true, if_false, eq_self_iff_true, reduceIte, reduceCtorEq, Nat.zero_le, slv, not_false_eq_true, and_self, and_true, true_and, Bool.not_true, Bool.not_false, beq_self_eq_true, Nat.reduceAdd, Nat.reduceLT, Nat.reduceLeDiff, Nat.reduceSub, Nat.reduceEqDiff, Nat.reduceMul, Int.reduceAdd, Int.reduceLT, Int.reduceLE, Int.reduceNeg, Int.reduceEq, Int.reduceSub, decide_true, decide_false, decide_eq_true_eq, cond_true, cond_false, Int.reducePow, s_em, e0, s_run, ln, i1, sl, sb, q1, q2, Bool.and_self, Bool.true_or]
        | false =>
          rw [h2] at q2
          cases h3 : decide (b ∈ [[61], [60], [62]]) with
          | true =>
            rw [h3] at q3
            simp only [EV0, EV1, List.nodup_nil, List.nodup_cons, List.not_mem_nil, List.mem_cons, or_false, Nat.sub_self, Nat.add_one_sub_one, Nat.zero_lt_succ, if_true, if_false, eq_self_iff_true, reduceIte, reduceCtorEq, Nat.zero_le, slv, not_false_eq_true, and_self, and_true, true_and, Bool.not_true, Bool.not_false, beq_self_eq_true, Nat.reduceAdd, Nat.reduceLT, Nat.reduceLeDiff, Nat.reduceSub, Nat.reduceEqDiff, Nat.reduceMul, Int.reduceAdd, Int.reduceLT, Int.reduceLE, Int.reduceNeg, Int.reduceEq, Int.reduceSub, decide_true, decide_false, decide_eq_true_eq, cond_true, cond_false, Int.reducePow, s_em, e0, s_run, s_eq, ln, i1, sl, sb, q1, q2, q3, q4, Bool.and_true, Bool.and_false, Bool.false_or, Bool.true_and]
          | false =>
            rw [h3] at q3
            simp only [EV0, EV1, List.nodup_nil, List.nodup_cons, List.not_mem_nil, List.mem_cons, or_false, Nat.sub_self, Nat.add_one_sub_one, Nat.zero_lt_succ, if_true, if_false, eq_self_iff_true, reduceIte, reduceCtorEq, Nat.zero_le, slv, not_false_eq_true, and_self, and_true, true_and, Bool.not_true, Bool.not_false, beq_self_eq_true, Nat.reduceAdd, Nat.reduceLT, Nat.reduceLeDiff, Nat.reduceSub, Nat.reduceEqDiff, Nat.reduceMul, Int.reduceAdd, Int.reduceLT, Int.reduceLE, Int.reduceNeg, Int.reduceEq, Int.reduceSub, decide_true, decide_false, decide_eq_true_eq, cond_true, cond_false, Int.reducePow, s_em, e0, s_run, s_eq, ln, i1, sl, sb, q1, q2, q3, q4, Bool.and_true, Bool.and_false, Bool.false_or, Bool.false_and]
      | false =>
        rw [h1] at q1
        cases h3 : decide (b ∈ [[61], [60], [62]]) with
        | true =>
          rw [h3] at q3
          simp only [EV0, EV1, List.nodup_nil, List.nodup_cons, List.not_mem_nil, List.mem_cons, or_false, Nat.sub_self, Nat.add_one_sub_one, Nat.zero_lt_succ, if_true, if_false, eq_self_iff_true, reduceIte, reduceCtorEq, Nat.zero_le, slv, not_false_eq_true, and_self, and_true, true_and, Bool.not_true, Bool.not_false, beq_self_eq_true, Nat.reduceAdd, Nat.reduceLT, Nat.reduceLeDiff, Nat.reduceSub, Nat.reduceEqDiff, Nat.reduceMul, Int.reduceAdd, Int.reduceLT, Int.reduceLE, Int.reduceNeg, Int.reduceEq, Int.reduceSub, decide_true, decide_false, decide_eq_true_eq, cond_true, cond_false, Int.reducePow, s_em, e0, s_run, s_eq, ln, i1, sl, sb, q1, q2, q3, q4, Bool.false_and, Bool.false_or, Bool.true_and]
        | false =>
          rw [h3] at q3
          simp only [EV0, EV1, List.nodup_nil, List.nodup_cons, List.not_mem_nil, List.mem_cons, or_false, Nat.sub_self, Nat.add_one_sub_one, Nat.zero_lt_succ, if_true, if_false, eq_self_iff_true, reduceIte, reduceCtorEq, Nat.zero_le, slv, not_false_eq_true, and_self, and_true, true_and, Bool.not_true, Bool.not_false, beq_self_eq_true, Nat.reduceAdd, Nat.reduceLT, Nat.reduceLeDiff, Nat.reduceSub, Nat.reduceEqDiff, Nat.reduceMul, Int.reduceAdd, Int.reduceLT, Int.reduceLE, Int.reduceNeg, Int.reduceEq, Int.reduceSub, decide_true, decide_false, decide_eq_true_eq, cond_true, cond_false, Int.reducePow, s_em, e0, s_run, s_eq, ln, i1, sl, sb, q1, q2, q3, q4, Bool.false_and, Bool.false_or]
/-! moving -/
theorem spl_mv : ∀ (g acc : List Nat) (r c : Nat), ∃ (ini : List (List Nat)) (la : List Nat), TL.spl [10] 0 acc g = ini ++ [la] ∧ (ini = [] → la = acc ++ g ∧ mv (r, c) g = (r, c + g.length)) ∧ (ini ≠ [] → mv (r, c) g = (r + ini.length, 1 + la.length))
  | [], acc, r, c => ⟨[], acc, by rw [TL.spl_nil]; rfl, fun _ => ⟨by rw [List.append_nil], rfl⟩, fun z => absurd rfl z⟩
  | d :: g, acc, r, c => by
    by_cases hd : d = 10
    · subst hd
      obtain ⟨ini, la, h1, h2, h3⟩ := spl_mv g [] (r + 1) 1
      refine ⟨acc :: ini, la, ?_, fun z => by (cases z), fun _ => ?_⟩
      · rw [TL.spl_hit (by rfl)]
        show acc :: TL.spl [10] 0 [] g = _
        rw [h1]; rfl
      · show mv (mv1 (r, c) 10) g = _
        rw [show mv1 (r, c) 10 = (r + 1, 1) from rfl]
        by_cases z : ini = []
        · obtain ⟨a, b⟩ := h2 z
          rw [b, a, z]; simp
        · rw [h3 z, List.length_cons]
          simp only [Prod.mk.injEq, and_true]; omega
    · obtain ⟨ini, la, h1, h2, h3⟩ := spl_mv g (acc ++ [d]) r (c + 1)
      have m : mv (r, c) (d :: g) = mv (r, c + 1) g := by show mv (mv1 (r, c) d) g = _; rw [mv1, if_neg hd]
      refine ⟨ini, la, ?_, fun z => ?_, fun z => by rw [m]; exact h3 z⟩
      · rw [TL.spl_miss (TL.pre_of_head _ _ hd), h1]
      · obtain ⟨a, b⟩ := h2 z
        rw [m, a, b, List.append_assoc, List.length_cons]
        simp only [Prod.mk.injEq, true_and, List.singleton_append]; omega
def plc (x : Nat × Nat) : PD := .list [.int (x.1 : Int), .int (x.2 : Int)]
def plc' (x : Nat × Nat) : List PD := [.int (x.1 : Int), .int (x.2 : Int)]
theorem moved_ok {K : Nat} (hK : 1 ≤ K) (x : Nat × Nat) {g : List Nat} (hg : g.length ≤ 100000) : fnK rs glK K 16 [.val (plc x), .val (tx g)] = some (.own none (plc' (mv x g)), [.un, .un]) := by
  obtain ⟨k, rfl⟩ : ∃ k, K = k + 1 := ⟨K - 1, by omega⟩
  obtain ⟨r, c⟩ := x
  obtain ⟨ini, la, h1, h2, h3⟩ := spl_mv g [] r c
  have sp : mtD .split (S g) [tx [10]] = some (.own none ((ini ++ [la]).map tx)) := by
    have hc : ((S [10]).length == 0) = false ∧ (S g).length + 2 ≤ sizeLine := ⟨by rw [SX.S_len]; rfl, by rw [SX.S_len, slv]; omega⟩
    simp only [mtD, tx, if_pos hc]
    rw [SX.split_S (by simp) (by decide), h1, List.map_map]
    rfl
  have ln := len_tx (l := g) (by omega)
  have g0 : subD (.list [.int (r : Int), .int (c : Int)]) (.int 0) = some (.int r) := rfl
  have g1 : subD (.list [.int (r : Int), .int (c : Int)]) (.int 1) = some (.int c) := rfl
  have pl : prD .len [.list ((ini ++ [la]).map tx)] = some (.val (.int ((ini.length : Int) + 1))) := by
    simp only [prD, List.length_map, List.length_append, List.length_cons, List.length_nil]
    rw [show ((ini.length + (0 + 1) : Nat) : Int) = (ini.length : Int) + 1 by omega]
  have i2 : bopD .sub (.int ((ini.length : Int) + 1)) (.int 1) = some (.val (.int (ini.length : Int))) := by simp only [bopD]; rw [show (ini.length : Int) + 1 - 1 = ini.length by omega]
  have sl : subD (.list ((ini ++ [la]).map tx)) (.int (ini.length : Int)) = some (tx la) := by
    show atI _ _ = _
    refine atN ?_
    rw [List.map_append, List.getElem?_append_right (by rw [List.length_map]; omega), List.length_map, Nat.sub_self]
    rfl
  have lg : la.length ≤ g.length := by
    by_cases z : ini = []
    · obtain ⟨a, _⟩ := h2 z
      rw [a]; simp
    · have : ∀ (g acc : List Nat), ∀ p ∈ TL.spl [10] 0 acc g, p.length ≤ acc.length + g.length := by
        intro g
        induction g with
        | nil => intro acc p hp; rw [TL.spl_nil] at hp; rw [List.mem_singleton.mp hp]; simp
        | cons d g ih =>
          intro acc p hp
          by_cases hd : d = 10
          · subst hd
            rw [TL.spl_hit (by rfl)] at hp
            rcases List.mem_cons.mp hp with rfl | hp
            · omega
            · have := ih [] p hp
              simp only [List.length_nil, List.length_cons] at this ⊢
              omega
          · rw [TL.spl_miss (TL.pre_of_head _ _ hd)] at hp
            have := ih _ p hp
            simp only [List.length_append, List.length_cons, List.length_nil] at this ⊢
            omega
      have := this g [] la (by rw [h1]; simp)
      simpa using this
  have ll := len_tx (l := la) (by omega)
  rw [run16]
  by_cases z : ini = []
  · obtain ⟨a, b⟩ := h2 z
    have e1 : copD .eq (.int ((ini.length : Int) + 1)) (.int 1) = some true := by rw [z]; rfl
    have a1 : bopD .add (.int (c : Int)) (.int (g.length : Int)) = some (.val (.int ((c + g.length : Nat) : Int))) := by simp only [bopD]; rw [show (c : Int) + (g.length : Int) = ((c + g.length : Nat) : Int) by omega]
    rw [b]
    generalize (ini ++ [la]).map tx = Z at *
    simp only [plc, plc', EV0, EV1, List.nodup_nil, List.nodup_cons, List.not_mem_nil, List.mem_cons, or_false, Nat.sub_self, Nat.add_one_sub_one, Nat.zero_lt_succ, if_true, if_false, eq_self_iff_true, reduceIte, reduceCtorEq, Nat.zero_le, slv, not_false_eq_true, and_self, and_true, true_and, Bool.not_true, Bool.not_false, beq_self_eq_true, Nat.reduceAdd, Nat.reduceLT, Nat.reduceLeDiff, Nat.reduceSub, Nat.reduceEqDiff, Nat.reduceMul, Int.reduceAdd, Int.reduceLT, Int.reduceLE, Int.reduceNeg, Int.reduceEq, Int.reduceSub, decide_true, decide_false, decide_eq_true_eq, cond_true, cond_false, Int.reducePow, s_nl, sp, pl, e1, g0, g1, ln, a1]
  · have e1 : copD .eq (.int ((ini.length : Int) + 1)) (.int 1) = some false := by
      have := List.length_pos_iff.mpr z
      simp only [copD, eqD, beqF (show (ini.length : Int) + 1 ≠ 1 by omega)]
    have a1 : bopD .add (.int (r : Int)) (.int ((ini.length : Int) + 1)) = some (.val (.int ((r : Int) + ((ini.length : Int) + 1)))) := rfl
    have a2 : bopD .sub (.int ((r : Int) + ((ini.length : Int) + 1))) (.int 1) = some (.val (.int ((r + ini.length : Nat) : Int))) := by simp only [bopD]; rw [show (r : Int) + ((ini.length : Int) + 1) - 1 = ((r + ini.length : Nat) : Int) by omega]
    have a3 : bopD .add (.int 1) (.int (la.length : Int)) = some (.val (.int ((1 + la.length : Nat) : Int))) := by simp only [bopD]; rw [show (1 : Int) + (la.length : Int) = ((1 + la.length : Nat) : Int) by omega]
    rw [h3 z]
    generalize (ini ++ [la]).map tx = Z at *
    simp only [plc, plc', EV0, EV1, List.nodup_nil, List.nodup_cons, List.not_mem_nil, List.mem_cons, or_false, Nat.sub_self, Nat.add_one_sub_one, Nat.zero_lt_succ, if_true, if_false, eq_self_iff_true, reduceIte, reduceCtorEq, Nat.zero_le, slv, not_false_eq_true, and_self, and_true, true_and, Bool.not_true, Bool.not_false, beq_self_eq_true, Nat.reduceAdd, Nat.reduceLT, Nat.reduceLeDiff, Nat.reduceSub, Nat.reduceEqDiff, Nat.reduceMul, Int.reduceAdd, Int.reduceLT, Int.reduceLE, Int.reduceNeg, Int.reduceEq, Int.reduceSub, decide_true, decide_false, decide_eq_true_eq, cond_true, cond_false, Int.reducePow, s_nl, sp, pl, e1, g0, g1, i2, sl, ll, a1, a2, a3]
end Lw

set_option Elab.async false
set_option linter.all false
set_option maxRecDepth 100000
set_option maxHeartbeats 2000000
namespace Lw
open PySem PySem.Spec PyProof.Rows L2 Dv Lc
/-! tails, gaps -/
theorem sk_rem {b : List Nat} (h : 10 ∉ b) : Sk (35 :: b) [] := by
  have := Sk.rem (g := []) (f := []) h (.inl rfl) .nil
  rwa [List.append_nil] at this
theorem sk_remg {b g f : List Nat} (h : 10 ∉ b) (s : Sk (10 :: g) f) : Sk (35 :: (b ++ 10 :: g)) f := .rem h (.inr rfl) s
theorem hs0 : headS [] := fun c h => by cases h
theorem hs1 {c : Nat} {r : List Nat} (h : c = 10 ∨ c = 32 ∨ c = 35) : headS (c :: r) := fun d e => by
  simp only [List.head?_cons, Option.some.injEq] at e
  subst e; exact h
theorem s_3 : ("   " : Str) = S [32, 32, 32] := by decide +kernel
theorem s_2 : ("  " : Str) = S [32, 32] := by decide +kernel
theorem s_nnn : ("\n\n\n" : Str) = S [10, 10, 10] := by decide +kernel
theorem s_n1 : ("\n " : Str) = S [10, 32] := by decide +kernel
theorem s_n2 : ("\n  " : Str) = S [10, 32, 32] := by decide +kernel
theorem s_sh : (" #" : Str) = S [32, 35] := by decide +kernel
theorem s_sns : (" \n " : Str) = S [32, 10, 32] := by decide +kernel
theorem s_nns : ("\n\n " : Str) = S [10, 10, 32] := by decide +kernel
theorem s_hn : ("#\n" : Str) = S [35, 10] := by decide +kernel
def tailL (b : List Nat) : List (List Nat) := [[], 35 :: b, 32 :: 35 :: b, [10], 35 :: b ++ [10], [35], [32, 32, 32], [10, 10, 10], 32 :: 35 :: b ++ [10, 32], [32, 35], 10 :: 35 :: b, [32, 10, 32]]
theorem tail_all {b : List Nat} (h : 10 ∉ b) (l : b.length ≤ 6) : ∀ t ∈ tailL b, Sk t [] ∧ headS t ∧ t.length ≤ 20 := by
  intro t ht
  have n0 : 10 ∉ ([] : List Nat) := by simp
  unfold tailL at ht
  simp only [List.mem_cons, List.not_mem_nil, or_false] at ht
  rcases ht with rfl | rfl | rfl | rfl | rfl | rfl | rfl | rfl | rfl | rfl | rfl | rfl
  · exact ⟨.nil, hs0, by simp⟩
  · exact ⟨sk_rem h, hs1 (by simp), by simp only [List.length_cons]; omega⟩
  · exact ⟨.sp (sk_rem h), hs1 (by simp), by simp only [List.length_cons]; omega⟩
  · exact ⟨.nl .nil, hs1 (by simp), by simp⟩
  · exact ⟨sk_remg h (.nl .nil), hs1 (by simp), by simp only [List.length_cons, List.length_append, List.length_nil]; omega⟩
  · exact ⟨sk_rem n0, hs1 (by simp), by simp⟩
  · exact ⟨.sp (.sp (.sp .nil)), hs1 (by simp), by simp⟩
  · exact ⟨.nl (.nl (.nl .nil)), hs1 (by simp), by simp⟩
  · exact ⟨.sp (sk_remg h (.nl (.sp .nil))), hs1 (by simp), by simp only [List.length_cons, List.length_append, List.length_nil]; omega⟩
  · exact ⟨.sp (sk_rem n0), hs1 (by simp), by simp⟩
  · exact ⟨.nl (sk_rem h), hs1 (by simp), by simp only [List.length_cons]; omega⟩
  · exact ⟨.sp (.nl (.sp .nil)), hs1 (by simp), by simp⟩
theorem tail_ok {K : Nat} (hK : 1 ≤ K) (d : Nat) {b : List Nat} (h : 10 ∉ b) (l : b.length ≤ 6) : ∃ t : List Nat, Sk t [] ∧ headS t ∧ t.length ≤ 20 ∧
    fnK rs glK K 19 [.val (.int (d : Int)), .val (tx (35 :: b))] = some (.val (tx t), [.un, .un]) := by
  obtain ⟨k, rfl⟩ : ∃ k, K = k + 1 := ⟨K - 1, by omega⟩
  have pI : prD .int [.int (d : Int)] = some (.val (.int (d : Int))) := rfl
  have m : bopD .mod (.int (d : Int)) (.int 12) = some (.val (.int ((d % 12 : Nat) : Int))) := rfl
  have hb : d % 12 < 12 := Nat.mod_lt _ (by decide)
  generalize d % 12 = D at *
  have hD : D < (tailL b).length := hb
  have tl := tail_all h l _ (List.getElem_mem hD)
  have sb : subD (.list ((tailL b).map tx)) (.int (D : Int)) = some (tx (tailL b)[D]) := atN (by rw [List.getElem?_map, List.getElem?_eq_getElem hD]; rfl)
  generalize (tailL b)[D] = t at *
  refine ⟨t, tl.1, tl.2.1, tl.2.2, ?_⟩
  unfold tailL at sb
  simp only [List.map_cons, List.map_nil, List.cons_append] at sb
  have a1 := add_tx (a := [32]) (b := 35 :: b) (by simp only [List.length_cons, List.length_nil]; omega)
  have a2 := add_tx (a := 35 :: b) (b := [10]) (by simp only [List.length_cons, List.length_nil]; omega)
  have a3 := add_tx (a := 32 :: 35 :: b) (b := [10, 32]) (by simp only [List.length_cons, List.length_nil]; omega)
  have a4 := add_tx (a := [10]) (b := 35 :: b) (by simp only [List.length_cons, List.length_nil]; omega)
  simp only [List.cons_append, List.nil_append] at a1 a2 a3 a4
  rw [run19]
  generalize 35 :: (b ++ [10]) = x1 at *
  generalize 32 :: 35 :: (b ++ [10, 32]) = x2 at *
  generalize 32 :: 35 :: b = x3 at *
  generalize 10 :: 35 :: b = x4 at *
  generalize 35 :: b = x5 at *
  simp only [EV0, EV1, List.nodup_nil, List.nodup_cons, List.not_mem_nil, List.mem_cons, or_false, Nat.sub_self, Nat.add_one_sub_one, Nat.zero_lt_succ, if_true, if_false, eq_self_iff_true, reduceIte, reduceCtorEq, Nat.zero_le, slv, not_false_eq_true, and_self, and_true, true_and, Bool.not_true, Bool.not_false, beq_self_eq_true, Nat.reduceAdd, Nat.reduceLT, Nat.reduceLeDiff, Nat.reduceSub, Nat.reduceEqDiff, Nat.reduceMul, Int.reduceAdd, Int.reduceLT, Int.reduceLE, Int.reduceNeg, Int.reduceEq, Int.reduceSub, decide_true, decide_false, decide_eq_true_eq, cond_true, cond_false, Int.reducePow, s_em, s_sp, s_nl, s_ha, s_3, s_nnn, s_n1, s_sh, s_sns, a1, a2, a3, a4, pI, m, sb]
def gapL (b : List Nat) : List (List Nat) := [[], [], [], [32], [32, 32], [10], [10, 10, 32], 35 :: b ++ [10], 32 :: 35 :: b ++ [10, 32, 32], [35, 10]]
def GapOk (g : List Nat) : Prop := (∀ f, Sk g f) ∧ headS g ∧ g.length ≤ 12
theorem gap_all {b : List Nat} (h : 10 ∉ b) (l : b.length ≤ 6) : ∀ t ∈ gapL b, GapOk t := by
  intro t ht
  have n0 : 10 ∉ ([] : List Nat) := by simp
  unfold gapL at ht
  simp only [List.mem_cons, List.not_mem_nil, or_false] at ht
  rcases ht with rfl | rfl | rfl | rfl | rfl | rfl | rfl | rfl | rfl | rfl
  · exact ⟨fun f => .nil, hs0, by simp⟩
  · exact ⟨fun f => .nil, hs0, by simp⟩
  · exact ⟨fun f => .nil, hs0, by simp⟩
  · exact ⟨fun f => .sp .nil, hs1 (by simp), by simp⟩
  · exact ⟨fun f => .sp (.sp .nil), hs1 (by simp), by simp⟩
  · exact ⟨fun f => .nl .nil, hs1 (by simp), by simp⟩
  · exact ⟨fun f => .nl (.nl (.sp .nil)), hs1 (by simp), by simp⟩
  · exact ⟨fun f => sk_remg h (.nl .nil), hs1 (by simp), by simp only [List.length_cons, List.length_append, List.length_nil]; omega⟩
  · exact ⟨fun f => .sp (sk_remg h (.nl (.sp (.sp .nil)))), hs1 (by simp), by simp only [List.length_cons, List.length_append, List.length_nil]; omega⟩
  · exact ⟨fun f => sk_remg n0 (.nl .nil), hs1 (by simp), by simp⟩
/-! two lists of tokens -/
def TokOk (t : Tok) : Prop := PyData.strOk t.kd = true ∧ PyData.strOk (S t.w) = true
theorem enT_shp {t : Tok} (h : TokOk t) : SeqAt.shaped (enT t) = true := by
  simp only [SeqAt.shaped, enT, tx, PyData.canLay0, PyData.canLayAll0, PyData.depth, PyData.depthAll, Bool.true_and, Bool.and_true, h.1, h.2]
  decide
theorem enT_ne {t : Tok} (h : TokOk t) : copD .ne (enT t) (enT t) = some false := by
  simp only [copD, eqD_refl (enT_shp h), notB, Bool.not_true]
theorem same_turn {k : Nat} (hk : 1 ≤ k) (a b : Slo) (X : List PD) (ha : a = .val (.list X) ∨ ∃ p, a = .own p X) (hb : b = .val (.list X)) (t : Tok) (ot : TokOk t) (i : Nat) (h : X[i]? = some (enT t)) (s3 : Slo) :
    evS ⟨fnK rs glK k, glK⟩ (.cons (.set 3 false (.sub (.var 0) (.var 2))) (.cons (.ifs (.or (.not (.isi [.tuple] (.var 3))) (.cmp .ne (.var 3) (.sub (.var 1) (.var 2)))) (.cons (.ret (.bl false)) .nil) .nil) (.cons (.ifs (.or (.not (.isi [.str] (.sub (.var 3) (.int 0)))) (.not (.isi [.str] (.sub (.var 3) (.int 1))))) (.cons (.ret (.bl false)) .nil) .nil) (.cons (.ifs (.or (.not (.call 8 (.cons (.sub (.var 3) (.int 2)) .nil))) (.not (.call 8 (.cons (.sub (.var 3) (.int 3)) .nil)))) (.cons (.ret (.bl false)) .nil) .nil) .nil)))) [a, b, .val (.int (i : Int)), s3] = some (.nx [a, b, .val (.int (i : Int)), .val (enT t)]) := by
  have sb : subD (.list X) (.int (i : Int)) = some (enT t) := atN h
  have ne := enT_ne ot
  have i1 := int_ok (K := k) hk (t.r : Int)
  have i2 := int_ok (K := k) hk (t.c : Int)
  have g0 : subD (enT t) (.int 0) = some (.str t.kd) := rfl
  have g1 : subD (enT t) (.int 1) = some (tx t.w) := rfl
  have g2 : subD (enT t) (.int 2) = some (.int (t.r : Int)) := rfl
  have g3 : subD (enT t) (.int 3) = some (.int (t.c : Int)) := rfl
  have t0 : isiD [.tuple] (enT t) = some true := rfl
  have t1 : isiD [.str] (.str t.kd) = some true := rfl
  have t2 : isiD [.str] (tx t.w) = some true := rfl
  generalize enT t = T at *
  subst hb
  rcases ha with rfl | ⟨p, rfl⟩
  · simp only [EV0, EV1, List.nodup_nil, List.nodup_cons, List.not_mem_nil, List.mem_cons, or_false, Nat.sub_self, Nat.add_one_sub_one, Nat.zero_lt_succ, if_true, if_false, eq_self_iff_true, reduceIte, reduceCtorEq, Nat.zero_le, slv, not_false_eq_true, and_self, and_true, true_and, Bool.not_true, Bool.not_false, beq_self_eq_true, Nat.reduceAdd, Nat.reduceLT, Nat.reduceLeDiff, Nat.reduceSub, Nat.reduceEqDiff, Nat.reduceMul, Int.reduceAdd, Int.reduceLT, Int.reduceLE, Int.reduceNeg, Int.reduceEq, Int.reduceSub, decide_true, decide_false, decide_eq_true_eq, cond_true, cond_false, Int.reducePow, sb, ne, i1, i2, g0, g1, g2, g3, t0, t1, t2]
  · simp only [EV0, EV1, List.nodup_nil, List.nodup_cons, List.not_mem_nil, List.mem_cons, or_false, Nat.sub_self, Nat.add_one_sub_one, Nat.zero_lt_succ, if_true, if_false, eq_self_iff_true, reduceIte, reduceCtorEq, Nat.zero_le, slv, not_false_eq_true, and_self, and_true, true_and, Bool.not_true, Bool.not_false, beq_self_eq_true, Nat.reduceAdd, Nat.reduceLT, Nat.reduceLeDiff, Nat.reduceSub, Nat.reduceEqDiff, Nat.reduceMul, Int.reduceAdd, Int.reduceLT, Int.reduceLE, Int.reduceNeg, Int.reduceEq, Int.reduceSub, decide_true, decide_false, decide_eq_true_eq, cond_true, cond_false, Int.reducePow, sb, ne, i1, i2, g0, g1, g2, g3, t0, t1, t2]
theorem same_loop {k : Nat} (hk : 1 ≤ k) (a b : Slo) (L : List Tok) (oL : ∀ t ∈ L, TokOk t) (ha : a = .val (.list (L.map enT)) ∨ ∃ p, a = .own p (L.map enT)) (hb : b = .val (.list (L.map enT))) : ∀ (is : List Nat) (s2 s3 : Slo), (∀ i ∈ is, i < L.length) →
    ∃ s2' s3', lpS ⟨fnK rs glK k, glK⟩ (.var 2) (.cons (.set 3 false (.sub (.var 0) (.var 2))) (.cons (.ifs (.or (.not (.isi [.tuple] (.var 3))) (.cmp .ne (.var 3) (.sub (.var 1) (.var 2)))) (.cons (.ret (.bl false)) .nil) .nil) (.cons (.ifs (.or (.not (.isi [.str] (.sub (.var 3) (.int 0)))) (.not (.isi [.str] (.sub (.var 3) (.int 1))))) (.cons (.ret (.bl false)) .nil) .nil) (.cons (.ifs (.or (.not (.call 8 (.cons (.sub (.var 3) (.int 2)) .nil))) (.not (.call 8 (.cons (.sub (.var 3) (.int 3)) .nil)))) (.cons (.ret (.bl false)) .nil) .nil) .nil)))) (is.map fun (k : Nat) => PyData.int (k : Int)) [a, b, s2, s3] = some (.nx [a, b, s2', s3'])
  | [], s2, s3, _ => ⟨s2, s3, rfl⟩
  | i :: is, s2, s3, h => by
    have hi := h i (List.mem_cons_self ..)
    obtain ⟨u, v, e⟩ := same_loop hk a b L oL ha hb is (.val (.int (i : Int))) (.val (enT L[i])) fun j hj => h j (List.mem_cons_of_mem _ hj)
    refine ⟨u, v, ?_⟩
    rw [List.map_cons, lp_go (ρ1 := [a, b, .val (.int (i : Int)), s3]) rfl (same_turn hk a b _ ha hb L[i] (oL _ (List.getElem_mem hi)) i (by rw [List.getElem?_map, List.getElem?_eq_getElem hi]; rfl) s3), e]
theorem same_ok {K : Nat} (hK : 2 ≤ K) (L : List Tok) (oL : ∀ t ∈ L, TokOk t) (hl : L.length ≤ 100000) : fnK rs glK K 20 [.val (.list (L.map enT)), .val (.list (L.map enT))] = some (.val (.bool true), [.un, .un]) := by
  obtain ⟨k, rfl⟩ : ∃ k, K = k + 1 := ⟨K - 1, by omega⟩
  obtain ⟨u, v, lp⟩ := same_loop (k := k) (by omega) (.val (.list (L.map enT))) (.val (.list (L.map enT))) L oL (.inl rfl) rfl (List.range L.length) .un .un fun i hi => List.mem_range.mp hi
  have rg := eI_rngN (C := ⟨fnK rs glK k, glK⟩) (m := false) (a := .prim .len (.cons (.var 1) .nil)) (ρ := [.val (.list (L.map enT)), .val (.list (L.map enT)), .un, .un]) (ρ1 := [.val (.list (L.map enT)), .val (.list (L.map enT)), .un, .un]) (n := L.length) (by simp only [EV0, EV1, List.nodup_nil, List.nodup_cons, List.not_mem_nil, List.mem_cons, or_false, Nat.sub_self, Nat.add_one_sub_one, Nat.zero_lt_succ, if_true, if_false, eq_self_iff_true, reduceIte, reduceCtorEq, Nat.zero_le, slv, not_false_eq_true, and_self, and_true, true_and, Bool.not_true, Bool.not_false, beq_self_eq_true, Nat.reduceAdd, Nat.reduceLT, Nat.reduceLeDiff, Nat.reduceSub, Nat.reduceEqDiff, Nat.reduceMul, Int.reduceAdd, Int.reduceLT, Int.reduceLE, Int.reduceNeg, Int.reduceEq, Int.reduceSub, decide_true, decide_false, decide_eq_true_eq, cond_true, cond_false, Int.reducePow, prD, List.length_map]) hl
  have il : isiD [.list] (.list (L.map enT)) = some true := rfl
  have pl : prD .len [.list (L.map enT)] = some (.val (.int (L.length : Int))) := by simp only [prD, List.length_map]
  have ne : copD .ne (.int (L.length : Int)) (.int (L.length : Int)) = some false := by simp only [copD, eqD, notB, beqT, Bool.not_true]
  generalize L.map enT = X at *
  rw [run20]
  simp only [EV0, EV1, List.nodup_nil, List.nodup_cons, List.not_mem_nil, List.mem_cons, or_false, Nat.sub_self, Nat.add_one_sub_one, Nat.zero_lt_succ, if_true, if_false, eq_self_iff_true, reduceIte, reduceCtorEq, Nat.zero_le, slv, not_false_eq_true, and_self, and_true, true_and, Bool.not_true, Bool.not_false, beq_self_eq_true, Nat.reduceAdd, Nat.reduceLT, Nat.reduceLeDiff, Nat.reduceSub, Nat.reduceEqDiff, Nat.reduceMul, Int.reduceAdd, Int.reduceLT, Int.reduceLE, Int.reduceNeg, Int.reduceEq, Int.reduceSub, decide_true, decide_false, decide_eq_true_eq, cond_true, cond_false, Int.reducePow, il, pl, ne, rg, lp]
theorem same_own {K : Nat} (hK : 2 ≤ K) (L : List Tok) (oL : ∀ t ∈ L, TokOk t) (hl : L.length ≤ 100000) : fnK rs glK K 22 [.own none (L.map enT), .val (.list (L.map enT))] = some (.val (.bool true), [.own none (L.map enT), .un]) := by
  obtain ⟨k, rfl⟩ : ∃ k, K = k + 1 := ⟨K - 1, by omega⟩
  obtain ⟨u, v, lp⟩ := same_loop (k := k) (by omega) (.own (some 0) (L.map enT)) (.val (.list (L.map enT))) L oL (.inr ⟨_, rfl⟩) rfl (List.range L.length) .un .un fun i hi => List.mem_range.mp hi
  have rg := eI_rngN (C := ⟨fnK rs glK k, glK⟩) (m := false) (a := .prim .len (.cons (.var 1) .nil)) (ρ := [.own (some 0) (L.map enT), .val (.list (L.map enT)), .un, .un]) (ρ1 := [.own (some 0) (L.map enT), .val (.list (L.map enT)), .un, .un]) (n := L.length) (by simp only [EV0, EV1, List.nodup_nil, List.nodup_cons, List.not_mem_nil, List.mem_cons, or_false, Nat.sub_self, Nat.add_one_sub_one, Nat.zero_lt_succ, if_true, if_false, eq_self_iff_true, reduceIte, reduceCtorEq, Nat.zero_le, slv, not_false_eq_true, and_self, and_true, true_and, Bool.not_true, Bool.not_false, beq_self_eq_true, Nat.reduceAdd, Nat.reduceLT, Nat.reduceLeDiff, Nat.reduceSub, Nat.reduceEqDiff, Nat.reduceMul, Int.reduceAdd, Int.reduceLT, Int.reduceLE, Int.reduceNeg, Int.reduceEq, Int.reduceSub, decide_true, decide_false, decide_eq_true_eq, cond_true, cond_false, Int.reducePow, prD, List.length_map]) hl
  have il : isiD [.list] (.list (L.map enT)) = some true := rfl
  have pl : prD .len [.list (L.map enT)] = some (.val (.int (L.length : Int))) := by simp only [prD, List.length_map]
  have ne : copD .ne (.int (L.length : Int)) (.int (L.length : Int)) = some false := by simp only [copD, eqD, notB, beqT, Bool.not_true]
  generalize L.map enT = X at *
  rw [run22]
  simp only [EV0, EV1, List.nodup_nil, List.nodup_cons, List.not_mem_nil, List.mem_cons, or_false, Nat.sub_self, Nat.add_one_sub_one, Nat.zero_lt_succ, if_true, if_false, eq_self_iff_true, reduceIte, reduceCtorEq, Nat.zero_le, slv, not_false_eq_true, and_self, and_true, true_and, Bool.not_true, Bool.not_false, beq_self_eq_true, Nat.reduceAdd, Nat.reduceLT, Nat.reduceLeDiff, Nat.reduceSub, Nat.reduceEqDiff, Nat.reduceMul, Int.reduceAdd, Int.reduceLT, Int.reduceLE, Int.reduceNeg, Int.reduceEq, Int.reduceSub, decide_true, decide_false, decide_eq_true_eq, cond_true, cond_false, Int.reducePow, il, pl, ne, rg, lp]
end Lw

set_option Elab.async false
set_option linter.all false
set_option maxRecDepth 100000
set_option maxHeartbeats 2000000
namespace Lw
open PySem PySem.Spec PyProof.Rows L2 Dv Lc
def PcOk (x : Pc) : Prop := GapOk x.1 ∧ Good x.2 ∧ x.2.length ≤ 12
def enP (x : Pc) : PD := .tuple [tx x.1, tx x.2]
theorem gap_eval {k : Nat} (C : Cfg) (gs : List Nat) (j : Nat) (hj : j < gs.length) {b : List Nat} (h : 10 ∉ b) (l : b.length ≤ 6) (a0 a1 a2 a3 a4 a5 a7 a8 a11 a12 a13 : Slo) : ∃ g, GapOk g ∧
    evX C (.sub (.lst (.cons (.str "") (.cons (.str "") (.cons (.str "") (.cons (.str " ") (.cons (.str "  ") (.cons (.str "\n") (.cons (.str "\n\n ") (.cons (.bin .add (.var 10) (.str "\n")) (.cons (.bin .add (.bin .add (.str " ") (.var 10)) (.str "\n  ")) (.cons (.str "#\n") .nil))))))))))) (.bin .mod (.prim .int (.cons (.sub (.var 6) (.var 9)) .nil)) (.int 10)))
      [a0, a1, a2, a3, a4, a5, .val (dl gs), a7, a8, .val (.int (j : Int)), .val (tx (35 :: b)), a11, a12, a13] = some (.val (tx g), [a0, a1, a2, a3, a4, a5, .val (dl gs), a7, a8, .val (.int (j : Int)), .val (tx (35 :: b)), a11, a12, a13]) := by
  have sd := sub_dl (ds := gs) (i := (j : Int)) j rfl hj
  generalize gs[j] = d at sd
  have pI : prD .int [.int (d : Int)] = some (.val (.int (d : Int))) := rfl
  have m : bopD .mod (.int (d : Int)) (.int 10) = some (.val (.int ((d % 10 : Nat) : Int))) := rfl
  have hb : d % 10 < 10 := Nat.mod_lt _ (by decide)
  generalize d % 10 = D at *
  have hD : D < (gapL b).length := hb
  have tl := gap_all h l _ (List.getElem_mem hD)
  have sb : subD (.list ((gapL b).map tx)) (.int (D : Int)) = some (tx (gapL b)[D]) := atN (by rw [List.getElem?_map, List.getElem?_eq_getElem hD]; rfl)
  generalize (gapL b)[D] = t at *
  refine ⟨t, tl, ?_⟩
  unfold gapL at sb
  simp only [List.map_cons, List.map_nil, List.cons_append] at sb
  have a1 := add_tx (a := [32]) (b := 35 :: b) (by simp only [List.length_cons, List.length_nil]; omega)
  have a2 := add_tx (a := 35 :: b) (b := [10]) (by simp only [List.length_cons, List.length_nil]; omega)
  have a3 := add_tx (a := 32 :: 35 :: b) (b := [10, 32, 32]) (by simp only [List.length_cons, List.length_nil]; omega)
  simp only [List.cons_append, List.nil_append] at a1 a2 a3
  generalize 35 :: (b ++ [10]) = x1 at *
  generalize 32 :: 35 :: (b ++ [10, 32, 32]) = x2 at *
  generalize 32 :: 35 :: b = x3 at *
  generalize 35 :: b = x5 at *
  generalize dl gs = G at *
  simp only [EV0, EV1, List.nodup_nil, List.nodup_cons, List.not_mem_nil, List.mem_cons, or_false, Nat.sub_self, Nat.add_one_sub_one, Nat.zero_lt_succ, if_true, if_false, eq_self_iff_true, reduceIte, reduceCtorEq, Nat.zero_le, slv, not_false_eq_true, and_self, and_true, true_and, Bool.not_true, Bool.not_false, beq_self_eq_true, Nat.reduceAdd, Nat.reduceLT, Nat.reduceLeDiff, Nat.reduceSub, Nat.reduceEqDiff, Nat.reduceMul, Int.reduceAdd, Int.reduceLT, Int.reduceLE, Int.reduceNeg, Int.reduceEq, Int.reduceSub, decide_true, decide_false, decide_eq_true_eq, cond_true, cond_false, Int.reducePow, s_em, s_sp, s_nl, s_2, s_nns, s_n2, s_hn, a1, a2, a3, pI, m, sd, sb]
theorem piece_turn {k : Nat} (hk : 3 ≤ k) (ws ls gs rm : List Nat) (hw : ∀ d ∈ ws, d < 1000) (j : Nat) (h1 : 4 * j + 4 ≤ ws.length) (h2 : 12 * j + 12 ≤ ls.length) (h3 : j < gs.length) (h4 : 7 * j + 7 ≤ rm.length)
    (a0 a1 a2 a3 a10 a11 a12 a13 : Slo) (acc : List PD) (hl : acc.length ≤ 100000) : ∃ (x : Pc) (b10 b11 : Slo), PcOk x ∧
      evS ⟨fnK rs glK k, glK⟩ (.cons (.set 10 false (.call 14 (.cons (.var 7) (.cons (.bin .mul (.int 7) (.var 9)) .nil)))) (.cons (.set 11 false (.sub (.lst (.cons (.str "") (.cons (.str "") (.cons (.str "") (.cons (.str " ") (.cons (.str "  ") (.cons (.str "\n") (.cons (.str "\n\n ") (.cons (.bin .add (.var 10) (.str "\n")) (.cons (.bin .add (.bin .add (.str " ") (.var 10)) (.str "\n  ")) (.cons (.str "#\n") .nil))))))))))) (.bin .mod (.prim .int (.cons (.sub (.var 6) (.var 9)) .nil)) (.int 10)))) (.cons (.ex (.app 8 (.tup (.cons (.var 11) (.cons (.call 12 (.cons (.var 4) (.cons (.bin .mul (.int 4) (.var 9)) (.cons (.var 5) (.cons (.bin .mul (.int 12) (.var 9)) .nil))))) .nil))))) .nil))) [a0, a1, a2, a3, .val (dl ws), .val (dl ls), .val (dl gs), .val (dl rm), .own none acc, .val (.int (j : Int)), a10, a11, a12, a13]
        = some (.nx [a0, a1, a2, a3, .val (dl ws), .val (dl ls), .val (dl gs), .val (dl rm), .own none (acc ++ [enP x]), .val (.int (j : Int)), b10, b11, a12, a13]) := by
  obtain ⟨b, hb1, hb2, hb3⟩ := remark_ok (K := k) (by omega) rm (7 * j) h4
  obtain ⟨w, w1, w2, w3⟩ := word_ok (K := k) (by omega) ws ls hw (4 * j) (12 * j) h1 h2
  obtain ⟨g, g1, g2⟩ := gap_eval (k := k) ⟨fnK rs glK k, glK⟩ gs j h3 hb1 hb2 a0 a1 a2 a3 (.val (dl ws)) (.val (dl ls)) (.val (dl rm)) (.own none acc) a11 a12 a13
  refine ⟨(g, w), .val (tx (35 :: b)), .val (tx g), ⟨g1, w1, w2⟩, ?_⟩
  have m7 : bopD .mul (.int 7) (.int (j : Int)) = some (.val (.int ((7 * j : Nat) : Int))) := by simp only [bopD]; rw [if_pos (.inl (by decide)), show (7 : Int) * (j : Int) = ((7 * j : Nat) : Int) by omega]
  have m4 : bopD .mul (.int 4) (.int (j : Int)) = some (.val (.int ((4 * j : Nat) : Int))) := by simp only [bopD]; rw [if_pos (.inl (by decide)), show (4 : Int) * (j : Int) = ((4 * j : Nat) : Int) by omega]
  have m12 : bopD .mul (.int 12) (.int (j : Int)) = some (.val (.int ((12 * j : Nat) : Int))) := by simp only [bopD]; rw [if_pos (.inl (by decide)), show (12 : Int) * (j : Int) = ((12 * j : Nat) : Int) by omega]
  have l' : acc.length < 16777216 := by omega
  have st1 : evS ⟨fnK rs glK k, glK⟩ (.set 10 false (.call 14 (.cons (.var 7) (.cons (.bin .mul (.int 7) (.var 9)) .nil)))) [a0, a1, a2, a3, .val (dl ws), .val (dl ls), .val (dl gs), .val (dl rm), .own none acc, .val (.int (j : Int)), a10, a11, a12, a13] = some (.nx [a0, a1, a2, a3, .val (dl ws), .val (dl ls), .val (dl gs), .val (dl rm), .own none acc, .val (.int (j : Int)), .val (tx (35 :: b)), a11, a12, a13]) := by
    generalize 7 * j = J at *
    generalize dl ws = W at *
    generalize dl ls = L at *
    generalize dl gs = G at *
    generalize dl rm = R at *
    generalize 35 :: b = B at *
    simp only [EV0, EV1, List.nodup_nil, List.nodup_cons, List.not_mem_nil, List.mem_cons, or_false, Nat.sub_self, Nat.add_one_sub_one, Nat.zero_lt_succ, if_true, if_false, eq_self_iff_true, reduceIte, reduceCtorEq, Nat.zero_le, slv, not_false_eq_true, and_self, and_true, true_and, Bool.not_true, Bool.not_false, beq_self_eq_true, Nat.reduceAdd, Nat.reduceLT, Nat.reduceLeDiff, Nat.reduceSub, Nat.reduceEqDiff, Nat.reduceMul, Int.reduceAdd, Int.reduceLT, Int.reduceLE, Int.reduceNeg, Int.reduceEq, Int.reduceSub, decide_true, decide_false, decide_eq_true_eq, cond_true, cond_false, Int.reducePow, m7, hb3]
  have st2 : evS ⟨fnK rs glK k, glK⟩ (.set 11 false (.sub (.lst (.cons (.str "") (.cons (.str "") (.cons (.str "") (.cons (.str " ") (.cons (.str "  ") (.cons (.str "\n") (.cons (.str "\n\n ") (.cons (.bin .add (.var 10) (.str "\n")) (.cons (.bin .add (.bin .add (.str " ") (.var 10)) (.str "\n  ")) (.cons (.str "#\n") .nil))))))))))) (.bin .mod (.prim .int (.cons (.sub (.var 6) (.var 9)) .nil)) (.int 10)))) [a0, a1, a2, a3, .val (dl ws), .val (dl ls), .val (dl gs), .val (dl rm), .own none acc, .val (.int (j : Int)), .val (tx (35 :: b)), a11, a12, a13] = some (.nx [a0, a1, a2, a3, .val (dl ws), .val (dl ls), .val (dl gs), .val (dl rm), .own none acc, .val (.int (j : Int)), .val (tx (35 :: b)), .val (tx g), a12, a13]) := by
    rw [eS_set, g2]
    rfl
  have st3 : evS ⟨fnK rs glK k, glK⟩ (.ex (.app 8 (.tup (.cons (.var 11) (.cons (.call 12 (.cons (.var 4) (.cons (.bin .mul (.int 4) (.var 9)) (.cons (.var 5) (.cons (.bin .mul (.int 12) (.var 9)) .nil))))) .nil))))) [a0, a1, a2, a3, .val (dl ws), .val (dl ls), .val (dl gs), .val (dl rm), .own none acc, .val (.int (j : Int)), .val (tx (35 :: b)), .val (tx g), a12, a13] = some (.nx [a0, a1, a2, a3, .val (dl ws), .val (dl ls), .val (dl gs), .val (dl rm), .own none (acc ++ [enP (g, w)]), .val (.int (j : Int)), .val (tx (35 :: b)), .val (tx g), a12, a13]) := by
    generalize 4 * j = J at *
    generalize 12 * j = J' at *
    generalize dl ws = W at *
    generalize dl ls = L at *
    generalize dl gs = G at *
    generalize dl rm = R at *
    generalize 35 :: b = B at *
    simp only [EV0, EV1, List.nodup_nil, List.nodup_cons, List.not_mem_nil, List.mem_cons, or_false, Nat.sub_self, Nat.add_one_sub_one, Nat.zero_lt_succ, if_true, if_false, eq_self_iff_true, reduceIte, reduceCtorEq, Nat.zero_le, slv, not_false_eq_true, and_self, and_true, true_and, Bool.not_true, Bool.not_false, beq_self_eq_true, Nat.reduceAdd, Nat.reduceLT, Nat.reduceLeDiff, Nat.reduceSub, Nat.reduceEqDiff, Nat.reduceMul, Int.reduceAdd, Int.reduceLT, Int.reduceLE, Int.reduceNeg, Int.reduceEq, Int.reduceSub, decide_true, decide_false, decide_eq_true_eq, cond_true, cond_false, Int.reducePow, m4, m12, w3, l', enP]
  rw [eS_cons, st1]
  dsimp only
  rw [eS_cons, st2]
  dsimp only
  rw [eS_cons, st3]
  dsimp only
  rw [eS_nil]
theorem piece_loop {k : Nat} (hk : 3 ≤ k) (ws ls gs rm : List Nat) (hw : ∀ d ∈ ws, d < 1000) (m : Nat) (h1 : 4 * m ≤ ws.length) (h2 : 12 * m ≤ ls.length) (h3 : m ≤ gs.length) (h4 : 7 * m ≤ rm.length) (a0 a1 a2 a3 a12 a13 : Slo) :
    ∀ (is : List Nat) (acc : List PD) (a9 a10 a11 : Slo), (∀ i ∈ is, i < m) → acc.length + is.length ≤ 100000 → ∃ (l : List Pc) (b9 b10 b11 : Slo), l.length = is.length ∧ (∀ x ∈ l, PcOk x) ∧
      lpS ⟨fnK rs glK k, glK⟩ (.var 9) (.cons (.set 10 false (.call 14 (.cons (.var 7) (.cons (.bin .mul (.int 7) (.var 9)) .nil)))) (.cons (.set 11 false (.sub (.lst (.cons (.str "") (.cons (.str "") (.cons (.str "") (.cons (.str " ") (.cons (.str "  ") (.cons (.str "\n") (.cons (.str "\n\n ") (.cons (.bin .add (.var 10) (.str "\n")) (.cons (.bin .add (.bin .add (.str " ") (.var 10)) (.str "\n  ")) (.cons (.str "#\n") .nil))))))))))) (.bin .mod (.prim .int (.cons (.sub (.var 6) (.var 9)) .nil)) (.int 10)))) (.cons (.ex (.app 8 (.tup (.cons (.var 11) (.cons (.call 12 (.cons (.var 4) (.cons (.bin .mul (.int 4) (.var 9)) (.cons (.var 5) (.cons (.bin .mul (.int 12) (.var 9)) .nil))))) .nil))))) .nil))) (is.map fun (k : Nat) => PyData.int (k : Int)) [a0, a1, a2, a3, .val (dl ws), .val (dl ls), .val (dl gs), .val (dl rm), .own none acc, a9, a10, a11, a12, a13]
        = some (.nx [a0, a1, a2, a3, .val (dl ws), .val (dl ls), .val (dl gs), .val (dl rm), .own none (acc ++ l.map enP), b9, b10, b11, a12, a13])
  | [], acc, a9, a10, a11, _, _ => ⟨[], a9, a10, a11, rfl, (fun x hx => by cases hx), by rw [List.map_nil, lp_nil, List.map_nil, List.append_nil]⟩
  | i :: is, acc, a9, a10, a11, h, hl => by
    simp only [List.length_cons] at hl
    have hi := h i (List.mem_cons_self ..)
    obtain ⟨x, b10, b11, hx, e⟩ := piece_turn hk ws ls gs rm hw i (by omega) (by omega) (by omega) (by omega) a0 a1 a2 a3 a10 a11 a12 a13 acc (by omega)
    obtain ⟨l, c9, c10, c11, q1, q2, q3⟩ := piece_loop hk ws ls gs rm hw m h1 h2 h3 h4 a0 a1 a2 a3 a12 a13 is (acc ++ [enP x]) (.val (.int (i : Int))) b10 b11 (fun j hj => h j (List.mem_cons_of_mem _ hj)) (by simp only [List.length_append, List.length_cons, List.length_nil]; omega)
    refine ⟨x :: l, c9, c10, c11, by rw [List.length_cons, q1, List.length_cons], fun y hy => ?_, ?_⟩
    · rcases List.mem_cons.mp hy with rfl | hy
      · exact hx
      · exact q2 y hy
    · rw [List.map_cons, lp_go (ρ1 := [a0, a1, a2, a3, .val (dl ws), .val (dl ls), .val (dl gs), .val (dl rm), .own none acc, .val (.int (i : Int)), a10, a11, a12, a13]) rfl e, q3, List.map_cons, List.append_assoc, List.singleton_append]
def szP (x : Pc) : Nat := x.1.length + x.2.length + 1
theorem size_el (C : Cfg) (x : Pc) (h : PcOk x) (a0 a1 a2 a3 a4 a5 a6 a7 a8 a9 a10 a12 : Slo) :
    evX C (.bin .add (.bin .add (.prim .len (.cons (.var 11) .nil)) (.prim .len (.cons (.var 13) .nil))) (.int 1)) [a0, a1, a2, a3, a4, a5, a6, a7, a8, a9, a10, .val (tx x.1), a12, .val (tx x.2)] = some (.val (iN (szP x)), [a0, a1, a2, a3, a4, a5, a6, a7, a8, a9, a10, .val (tx x.1), a12, .val (tx x.2)]) := by
  have l1 := len_tx (l := x.1) (by have := h.1.2.2; omega)
  have l2 := len_tx (l := x.2) (by have := h.2.2; omega)
  have ad : bopD .add (.int (x.1.length : Int)) (.int (x.2.length : Int)) = some (.val (.int ((x.1.length : Int) + (x.2.length : Int)))) := rfl
  have ad1 : bopD .add (.int ((x.1.length : Int) + (x.2.length : Int))) (.int 1) = some (.val (iN (szP x))) := by
    simp only [bopD, iN, szP]
    rw [show (x.1.length : Int) + (x.2.length : Int) + 1 = ((x.1.length + x.2.length + 1 : Nat) : Int) by omega]
  simp only [EV0, EV1, List.nodup_nil, List.nodup_cons, List.not_mem_nil, List.mem_cons, or_false, Nat.sub_self, Nat.add_one_sub_one, Nat.zero_lt_succ, if_true, if_false, eq_self_iff_true, reduceIte, reduceCtorEq, Nat.zero_le, slv, not_false_eq_true, and_self, and_true, true_and, Bool.not_true, Bool.not_false, beq_self_eq_true, Nat.reduceAdd, Nat.reduceLT, Nat.reduceLeDiff, Nat.reduceSub, Nat.reduceEqDiff, Nat.reduceMul, Int.reduceAdd, Int.reduceLT, Int.reduceLE, Int.reduceNeg, Int.reduceEq, Int.reduceSub, decide_true, decide_false, decide_eq_true_eq, cond_true, cond_false, Int.reducePow, l1, l2, ad, ad1]
theorem ints_sum : ∀ l : List Nat, (intsOf (l.map iN)).map (fun ns => Slo.val (PyData.int ns.sum)) = some (.val (.int (l.sum : Int)))
  | [] => rfl
  | x :: l => by
    have ih := ints_sum l
    rw [List.map_cons, iN, intsOf]
    cases e : intsOf (l.map iN) with
    | none => rw [e] at ih; cases ih
    | some ns =>
      rw [e] at ih
      simp only [Option.map_some, Option.some.injEq, Slo.val.injEq, PyData.int.injEq] at ih ⊢
      rw [List.sum_cons, List.sum_cons, ih]
      omega
theorem rep_map (l : List Pc) (n : Nat) : (List.replicate n (l.map enP)).flatten = ((List.replicate n l).flatten).map enP := by
  induction n with
  | zero => rfl
  | succ n ih => rw [List.replicate_succ, List.flatten_cons, List.replicate_succ, List.flatten_cons, List.map_append, ih]
theorem rep_len (l : List Pc) (n : Nat) : (List.replicate n l).flatten.length = n * l.length := by
  induction n with
  | zero => simp
  | succ n ih => rw [List.replicate_succ, List.flatten_cons, List.length_append, ih, Nat.succ_mul]; omega
theorem pieces_ok {K : Nat} (hK : 4 ≤ K) (ns : List Int) (at_ m : Nat) (hm : m ≤ 30) (long : Bool) : ∃ l : List Pc, (∀ x ∈ l, PcOk x) ∧ l.length ≤ 450 ∧
    fnK rs glK K 17 [.val (.list (ns.map PyData.int)), .val (.int (at_ : Int)), .val (.int (m : Int)), .val (.bool long)] = some (.own none (l.map enP), [.un, .un, .un, .un]) := by
  obtain ⟨k, rfl⟩ : ∃ k, K = k + 1 := ⟨K - 1, by omega⟩
  obtain ⟨c0, e0⟩ := cell_ok (K := k) (by omega) ns at_
  obtain ⟨c1, e1⟩ := cell_ok (K := k) (by omega) ns (at_ + 1)
  obtain ⟨c2, e2⟩ := cell_ok (K := k) (by omega) ns (at_ + 2)
  obtain ⟨c3, e3⟩ := cell_ok (K := k) (by omega) ns (at_ + 3)
  obtain ⟨ws, w1, w2, w3⟩ := draws_ok (K := k) (by omega) c0 (4 * m) (by omega)
  obtain ⟨ls, l1, l2, l3⟩ := draws_ok (K := k) (by omega) c1 (12 * m) (by omega)
  obtain ⟨gs, g1, g2, g3⟩ := draws_ok (K := k) (by omega) c2 m (by omega)
  obtain ⟨rm, r1, r2, r3⟩ := draws_ok (K := k) (by omega) c3 (7 * m) (by omega)
  have i1 : bopD .add (.int (at_ : Int)) (.int 1) = some (.val (.int ((at_ + 1 : Nat) : Int))) := rfl
  have i2 : bopD .add (.int (at_ : Int)) (.int 2) = some (.val (.int ((at_ + 2 : Nat) : Int))) := rfl
  have i3 : bopD .add (.int (at_ : Int)) (.int 3) = some (.val (.int ((at_ + 3 : Nat) : Int))) := rfl
  have m7 : bopD .mul (.int 7) (.int (m : Int)) = some (.val (.int ((7 * m : Nat) : Int))) := by simp only [bopD]; rw [if_pos (.inl (by decide)), show (7 : Int) * (m : Int) = ((7 * m : Nat) : Int) by omega]
  have m4 : bopD .mul (.int 4) (.int (m : Int)) = some (.val (.int ((4 * m : Nat) : Int))) := by simp only [bopD]; rw [if_pos (.inl (by decide)), show (4 : Int) * (m : Int) = ((4 * m : Nat) : Int) by omega]
  have m12 : bopD .mul (.int 12) (.int (m : Int)) = some (.val (.int ((12 * m : Nat) : Int))) := by simp only [bopD]; rw [if_pos (.inl (by decide)), show (12 : Int) * (m : Int) = ((12 * m : Nat) : Int) by omega]
  obtain ⟨l, b9, b10, b11, q1, q2, q3⟩ := piece_loop (k := k) (by omega) ws ls gs rm w2 m (by omega) (by omega) (by omega) (by omega) (.val (.list (ns.map PyData.int))) (.val (.int (at_ : Int))) (.val (.int (m : Int))) (.val (.bool long)) .un .un (List.range m) [] .un .un .un (fun i hi => List.mem_range.mp hi) (by simp only [List.length_nil, List.length_range]; omega)
  rw [List.nil_append] at q3
  rw [List.length_range] at q1
  have st : ∀ s : Slo, True := fun _ => trivial
  have S0 : evS ⟨fnK rs glK k, glK⟩ (.set 4 false (.call 7 (.cons (.call 6 (.cons (.var 0) (.cons (.var 1) .nil))) (.cons (.bin .mul (.int 4) (.var 2)) .nil)))) [.val (.list (ns.map PyData.int)), .val (.int (at_ : Int)), .val (.int (m : Int)), .val (.bool long), .un, .un, .un, .un, .un, .un, .un, .un, .un, .un] = some (.nx [.val (.list (ns.map PyData.int)), .val (.int (at_ : Int)), .val (.int (m : Int)), .val (.bool long), .val (dl ws), .un, .un, .un, .un, .un, .un, .un, .un, .un]) := by
    unfold dl
    generalize 4 * m = M at *
    generalize ns.map PyData.int = N at *
    simp only [EV0, EV1, List.nodup_nil, List.nodup_cons, List.not_mem_nil, List.mem_cons, or_false, Nat.sub_self, Nat.add_one_sub_one, Nat.zero_lt_succ, if_true, if_false, eq_self_iff_true, reduceIte, reduceCtorEq, Nat.zero_le, slv, not_false_eq_true, and_self, and_true, true_and, Bool.not_true, Bool.not_false, beq_self_eq_true, Nat.reduceAdd, Nat.reduceLT, Nat.reduceLeDiff, Nat.reduceSub, Nat.reduceEqDiff, Nat.reduceMul, Int.reduceAdd, Int.reduceLT, Int.reduceLE, Int.reduceNeg, Int.reduceEq, Int.reduceSub, decide_true, decide_false, decide_eq_true_eq, cond_true, cond_false, Int.reducePow, e0, m4, w3]
  have S1 : evS ⟨fnK rs glK k, glK⟩ (.set 5 false (.call 7 (.cons (.call 6 (.cons (.var 0) (.cons (.bin .add (.var 1) (.int 1)) .nil))) (.cons (.bin .mul (.int 12) (.var 2)) .nil)))) [.val (.list (ns.map PyData.int)), .val (.int (at_ : Int)), .val (.int (m : Int)), .val (.bool long), .val (dl ws), .un, .un, .un, .un, .un, .un, .un, .un, .un] = some (.nx [.val (.list (ns.map PyData.int)), .val (.int (at_ : Int)), .val (.int (m : Int)), .val (.bool long), .val (dl ws), .val (dl ls), .un, .un, .un, .un, .un, .un, .un, .un]) := by
    unfold dl
    generalize 12 * m = M at *
    generalize ns.map PyData.int = N at *
    generalize at_ + 1 = A at *
    simp only [EV0, EV1, List.nodup_nil, List.nodup_cons, List.not_mem_nil, List.mem_cons, or_false, Nat.sub_self, Nat.add_one_sub_one, Nat.zero_lt_succ, if_true, if_false, eq_self_iff_true, reduceIte, reduceCtorEq, Nat.zero_le, slv, not_false_eq_true, and_self, and_true, true_and, Bool.not_true, Bool.not_false, beq_self_eq_true, Nat.reduceAdd, Nat.reduceLT, Nat.reduceLeDiff, Nat.reduceSub, Nat.reduceEqDiff, Nat.reduceMul, Int.reduceAdd, Int.reduceLT, Int.reduceLE, Int.reduceNeg, Int.reduceEq, Int.reduceSub, decide_true, decide_false, decide_eq_true_eq, cond_true, cond_false, Int.reducePow, e1, i1, m12, l3]
  have S2 : evS ⟨fnK rs glK k, glK⟩ (.set 6 false (.call 7 (.cons (.call 6 (.cons (.var 0) (.cons (.bin .add (.var 1) (.int 2)) .nil))) (.cons (.var 2) .nil)))) [.val (.list (ns.map PyData.int)), .val (.int (at_ : Int)), .val (.int (m : Int)), .val (.bool long), .val (dl ws), .val (dl ls), .un, .un, .un, .un, .un, .un, .un, .un] = some (.nx [.val (.list (ns.map PyData.int)), .val (.int (at_ : Int)), .val (.int (m : Int)), .val (.bool long), .val (dl ws), .val (dl ls), .val (dl gs), .un, .un, .un, .un, .un, .un, .un]) := by
    unfold dl
    generalize ns.map PyData.int = N at *
    generalize at_ + 2 = A at *
    simp only [EV0, EV1, List.nodup_nil, List.nodup_cons, List.not_mem_nil, List.mem_cons, or_false, Nat.sub_self, Nat.add_one_sub_one, Nat.zero_lt_succ, if_true, if_false, eq_self_iff_true, reduceIte, reduceCtorEq, Nat.zero_le, slv, not_false_eq_true, and_self, and_true, true_and, Bool.not_true, Bool.not_false, beq_self_eq_true, Nat.reduceAdd, Nat.reduceLT, Nat.reduceLeDiff, Nat.reduceSub, Nat.reduceEqDiff, Nat.reduceMul, Int.reduceAdd, Int.reduceLT, Int.reduceLE, Int.reduceNeg, Int.reduceEq, Int.reduceSub, decide_true, decide_false, decide_eq_true_eq, cond_true, cond_false, Int.reducePow, e2, i2, g3]
  have S3 : evS ⟨fnK rs glK k, glK⟩ (.set 7 false (.call 7 (.cons (.call 6 (.cons (.var 0) (.cons (.bin .add (.var 1) (.int 3)) .nil))) (.cons (.bin .mul (.int 7) (.var 2)) .nil)))) [.val (.list (ns.map PyData.int)), .val (.int (at_ : Int)), .val (.int (m : Int)), .val (.bool long), .val (dl ws), .val (dl ls), .val (dl gs), .un, .un, .un, .un, .un, .un, .un] = some (.nx [.val (.list (ns.map PyData.int)), .val (.int (at_ : Int)), .val (.int (m : Int)), .val (.bool long), .val (dl ws), .val (dl ls), .val (dl gs), .val (dl rm), .un, .un, .un, .un, .un, .un]) := by
    unfold dl
    generalize 7 * m = M at *
    generalize ns.map PyData.int = N at *
    generalize at_ + 3 = A at *
    simp only [EV0, EV1, List.nodup_nil, List.nodup_cons, List.not_mem_nil, List.mem_cons, or_false, Nat.sub_self, Nat.add_one_sub_one, Nat.zero_lt_succ, if_true, if_false, eq_self_iff_true, reduceIte, reduceCtorEq, Nat.zero_le, slv, not_false_eq_true, and_self, and_true, true_and, Bool.not_true, Bool.not_false, beq_self_eq_true, Nat.reduceAdd, Nat.reduceLT, Nat.reduceLeDiff, Nat.reduceSub, Nat.reduceEqDiff, Nat.reduceMul, Int.reduceAdd, Int.reduceLT, Int.reduceLE, Int.reduceNeg, Int.reduceEq, Int.reduceSub, decide_true, decide_false, decide_eq_true_eq, cond_true, cond_false, Int.reducePow, e3, i3, m7, r3]
  generalize hW : dl ws = W at *
  generalize hL : dl ls = L at *
  generalize hG : dl gs = G at *
  generalize hR : dl rm = R at *
  generalize ns.map PyData.int = N at *
  have rg := eI_rngN (C := ⟨fnK rs glK k, glK⟩) (m := false) (a := .var 2) (ρ := [.val (.list N), .val (.int (at_ : Int)), .val (.int (m : Int)), .val (.bool long), .val W, .val L, .val G, .val R, .own none [], .un, .un, .un, .un, .un]) (n := m) (ρ1 := [.val (.list N), .val (.int (at_ : Int)), .val (.int (m : Int)), .val (.bool long), .val W, .val L, .val G, .val R, .own none [], .un, .un, .un, .un, .un]) (by simp only [EV0, EV1, List.nodup_nil, List.nodup_cons, List.not_mem_nil, List.mem_cons, or_false, Nat.sub_self, Nat.add_one_sub_one, Nat.zero_lt_succ, if_true, if_false, eq_self_iff_true, reduceIte, reduceCtorEq, Nat.zero_le, slv, not_false_eq_true, and_self, and_true, true_and, Bool.not_true, Bool.not_false, beq_self_eq_true, Nat.reduceAdd, Nat.reduceLT, Nat.reduceLeDiff, Nat.reduceSub, Nat.reduceEqDiff, Nat.reduceMul, Int.reduceAdd, Int.reduceLT, Int.reduceLE, Int.reduceNeg, Int.reduceEq, Int.reduceSub, decide_true, decide_false, decide_eq_true_eq, cond_true, cond_false, Int.reducePow]) (by omega)
  have S45 : evS ⟨fnK rs glK k, glK⟩ (.fors (.var 9) (.rng1 (.var 2)) (.cons (.set 10 false (.call 14 (.cons (.var 7) (.cons (.bin .mul (.int 7) (.var 9)) .nil)))) (.cons (.set 11 false (.sub (.lst (.cons (.str "") (.cons (.str "") (.cons (.str "") (.cons (.str " ") (.cons (.str "  ") (.cons (.str "\n") (.cons (.str "\n\n ") (.cons (.bin .add (.var 10) (.str "\n")) (.cons (.bin .add (.bin .add (.str " ") (.var 10)) (.str "\n  ")) (.cons (.str "#\n") .nil))))))))))) (.bin .mod (.prim .int (.cons (.sub (.var 6) (.var 9)) .nil)) (.int 10)))) (.cons (.ex (.app 8 (.tup (.cons (.var 11) (.cons (.call 12 (.cons (.var 4) (.cons (.bin .mul (.int 4) (.var 9)) (.cons (.var 5) (.cons (.bin .mul (.int 12) (.var 9)) .nil))))) .nil))))) .nil)))) [.val (.list N), .val (.int (at_ : Int)), .val (.int (m : Int)), .val (.bool long), .val W, .val L, .val G, .val R, .own none [], .un, .un, .un, .un, .un] = some (.nx [.val (.list N), .val (.int (at_ : Int)), .val (.int (m : Int)), .val (.bool long), .val W, .val L, .val G, .val R, .own none (l.map enP), b9, b10, b11, .un, .un]) := by
    rw [eS_fors, rg]
    dsimp only
    rw [q3]
  rw [run17]
  by_cases c : long = false ∨ m = 0
  · refine ⟨l, q2, by omega, ?_⟩
    have cc : evX ⟨fnK rs glK k, glK⟩ (.or (.not (.var 3)) (.cmp .eq (.var 2) (.int 0))) [.val (.list N), .val (.int (at_ : Int)), .val (.int (m : Int)), .val (.bool long), .val W, .val L, .val G, .val R, .own none (l.map enP), b9, b10, b11, .un, .un] = some (.val (.bool true), [.val (.list N), .val (.int (at_ : Int)), .val (.int (m : Int)), .val (.bool long), .val W, .val L, .val G, .val R, .own none (l.map enP), b9, b10, b11, .un, .un]) := by
      cases long with
      | false => simp only [EV0, EV1, List.nodup_nil, List.nodup_cons, List.not_mem_nil, List.mem_cons, or_false, Nat.sub_self, Nat.add_one_sub_one, Nat.zero_lt_succ, if_true, if_false, eq_self_iff_true, reduceIte, reduceCtorEq, Nat.zero_le, slv, not_false_eq_true, and_self, and_true, true_and, Bool.not_true, Bool.not_false, beq_self_eq_true, Nat.reduceAdd, Nat.reduceLT, Nat.reduceLeDiff, Nat.reduceSub, Nat.reduceEqDiff, Nat.reduceMul, Int.reduceAdd, Int.reduceLT, Int.reduceLE, Int.reduceNeg, Int.reduceEq, Int.reduceSub, decide_true, decide_false, decide_eq_true_eq, cond_true, cond_false, Int.reducePow]
      | true =>
        have m0 : (m : Int) = 0 := by
          rcases c with z | z
          · exact Bool.noConfusion z
          · omega
        have e0 : copD .eq (.int (m : Int)) (.int 0) = some true := by simp only [copD, eqD, beqT m0]
        simp only [EV0, EV1, List.nodup_nil, List.nodup_cons, List.not_mem_nil, List.mem_cons, or_false, Nat.sub_self, Nat.add_one_sub_one, Nat.zero_lt_succ, if_true, if_false, eq_self_iff_true, reduceIte, reduceCtorEq, Nat.zero_le, slv, not_false_eq_true, and_self, and_true, true_and, Bool.not_true, Bool.not_false, beq_self_eq_true, Nat.reduceAdd, Nat.reduceLT, Nat.reduceLeDiff, Nat.reduceSub, Nat.reduceEqDiff, Nat.reduceMul, Int.reduceAdd, Int.reduceLT, Int.reduceLE, Int.reduceNeg, Int.reduceEq, Int.reduceSub, decide_true, decide_false, decide_eq_true_eq, cond_true, cond_false, Int.reducePow, e0]
    generalize l.map enP = P at *
    simp only [EV0, EV1, List.nodup_nil, List.nodup_cons, List.not_mem_nil, List.mem_cons, or_false, Nat.sub_self, Nat.add_one_sub_one, Nat.zero_lt_succ, if_true, if_false, eq_self_iff_true, reduceIte, reduceCtorEq, Nat.zero_le, slv, not_false_eq_true, and_self, and_true, true_and, Bool.not_true, Bool.not_false, beq_self_eq_true, Nat.reduceAdd, Nat.reduceLT, Nat.reduceLeDiff, Nat.reduceSub, Nat.reduceEqDiff, Nat.reduceMul, Int.reduceAdd, Int.reduceLT, Int.reduceLE, Int.reduceNeg, Int.reduceEq, Int.reduceSub, decide_true, decide_false, decide_eq_true_eq, cond_true, cond_false, Int.reducePow, S0, S1, S2, S3, S45, cc]
  · have c1 : long = true := by cases long with
      | false => exact absurd (.inl rfl) c
      | true => rfl
    have c2 : 0 < m := Nat.pos_of_ne_zero fun z => c (.inr z)
    subst c1
    have e0 : copD .eq (.int (m : Int)) (.int 0) = some false := by simp only [copD, eqD, beqF (show (m : Int) ≠ 0 by omega)]
    have bk : blkD [.val (.list N), .val (.int (at_ : Int)), .val (.int (m : Int)), .val (.bool true), .val W, .val L, .val G, .val R, .own none (l.map enP), b9, b10, b11, .un, .un] [11, 13] = [.val (.list N), .val (.int (at_ : Int)), .val (.int (m : Int)), .val (.bool true), .val W, .val L, .val G, .val R, .un, blk1 b9, blk1 b10, .un, .un, .un] := rfl
    have cm := cm_all ⟨fnK rs glK k, glK⟩ (.tup (.cons (.var 11) (.cons (.var 13) .nil))) (.bin .add (.bin .add (.prim .len (.cons (.var 11) .nil)) (.prim .len (.cons (.var 13) .nil))) (.int 1)) [.val (.list N), .val (.int (at_ : Int)), .val (.int (m : Int)), .val (.bool true), .val W, .val L, .val G, .val R, .un, blk1 b9, blk1 b10, .un, .un, .un] (l.map enP) (l.map fun x => iN (szP x)) []
      (F2.of_map enP (fun x => iN (szP x)) l fun x hx => ⟨_, _, rfl, size_el _ x (q2 x hx) ..⟩) (by simp only [List.length_nil, List.length_map]; omega)
    rw [List.nil_append] at cm
    have sm := ints_sum (l.map szP)
    rw [List.map_map, show (iN ∘ szP) = (fun x => iN (szP x)) from rfl] at sm
    have sz : m ≤ (l.map szP).sum ∧ (l.map szP).sum < 1073741824 := by
      have : ∀ l : List Pc, (∀ x ∈ l, PcOk x) → l.length ≤ (l.map szP).sum ∧ (l.map szP).sum ≤ 25 * l.length := by
        intro l
        induction l with
        | nil => intro _; exact ⟨Nat.le_refl _, Nat.le_refl _⟩
        | cons x l ih =>
          intro h
          have i := ih fun y hy => h y (List.mem_cons_of_mem _ hy)
          have hx := h x (List.mem_cons_self ..)
          have h1 := hx.1.2.2
          have h2 := hx.2.2
          rw [List.map_cons, List.sum_cons, List.length_cons]
          unfold szP at i ⊢
          omega
      have := this l q2
      omega
    generalize (l.map szP).sum = Z at sm sz
    have d1 : bopD .div (.int 450) (.int (m : Int)) = some (.val (.int ((450 / m : Nat) : Int))) := by
      simp only [bopD]
      rw [if_pos (by omega)]
      rfl
    have d2 : bopD .div (.int 2900) (.int (Z : Int)) = some (.val (.int ((2900 / Z : Nat) : Int))) := by
      simp only [bopD]
      rw [if_pos (by omega)]
      rfl
    have le : 450 / m * m ≤ 450 := Nat.div_mul_le_self 450 m
    generalize 450 / m = A at *
    generalize 2900 / Z = B at *
    have mn : ∃ q : Nat, q ≤ A ∧ prD .min [.int (A : Int), .int (B : Int)] = some (.val (.int (q : Int))) := by
      by_cases z : (B : Int) < (A : Int)
      · exact ⟨B, by omega, by simp only [prD, if_pos z]⟩
      · exact ⟨A, by omega, by simp only [prD, if_neg z]⟩
    obtain ⟨q, qa, qe⟩ := mn
    have mx : ∃ r : Nat, r * m ≤ 450 ∧ prD .max [.int 1, .int (q : Int)] = some (.val (.int (r : Int))) := by
      have le2 : q * m ≤ A * m := Nat.mul_le_mul_right m qa
      by_cases z : (q : Int) > 1
      · exact ⟨q, by omega, by simp only [prD, if_pos z]⟩
      · exact ⟨1, by omega, by simp only [prD, if_neg z]; rfl⟩
    obtain ⟨r, ra, re⟩ := mx
    have rp : bopD .mul (.list (l.map enP)) (.int (r : Int)) = some (.own none (((List.replicate r l).flatten).map enP)) := by
      simp only [bopD]
      have rc : r * m ≤ 450 ∧ r ≤ 450 := ⟨ra, Nat.le_trans (Nat.le_mul_of_pos_right r c2) ra⟩
      rw [if_pos ⟨by omega, by omega, by rw [List.length_map, q1, Int.toNat_natCast, Nat.mul_comm, slv]; omega⟩, Int.toNat_natCast, rep_map]
    have sum_ev : evX ⟨fnK rs glK k, glK⟩ (.comp (.tup (.cons (.var 11) (.cons (.var 13) .nil))) (.cons (.var 8) .nil) (.bl true) (.bin .add (.bin .add (.prim .len (.cons (.var 11) .nil)) (.prim .len (.cons (.var 13) .nil))) (.int 1)) [11, 13]) [.val (.list N), .val (.int (at_ : Int)), .val (.int (m : Int)), .val (.bool true), .val W, .val L, .val G, .val R, .own none (l.map enP), b9, b10, b11, .un, .un] = some (.own none (l.map fun x => iN (szP x)), [.val (.list N), .val (.int (at_ : Int)), .val (.int (m : Int)), .val (.bool true), .val W, .val L, .val G, .val R, .own none (l.map enP), b9, b10, b11, .un, .un]) := by
      have it : evI ⟨fnK rs glK k, glK⟩ true (.cons (.var 8) .nil) [.val (.list N), .val (.int (at_ : Int)), .val (.int (m : Int)), .val (.bool true), .val W, .val L, .val G, .val R, .own none (l.map enP), b9, b10, b11, .un, .un] = some (l.map enP, [.val (.list N), .val (.int (at_ : Int)), .val (.int (m : Int)), .val (.bool true), .val W, .val L, .val G, .val R, .own none (l.map enP), b9, b10, b11, .un, .un]) := rfl
      rw [eX_comp, it]
      dsimp only
      rw [bk, cm]
    have ps : prD .sum [.list (l.map fun x => iN (szP x))] = some (.val (.int (Z : Int))) := sm
    refine ⟨(List.replicate r l).flatten, fun x hx => ?_, by rw [rep_len, q1]; exact ra, ?_⟩
    · rw [List.mem_flatten] at hx
      obtain ⟨y, hy, hx⟩ := hx
      rw [List.eq_of_mem_replicate hy] at hx
      exact q2 x hx
    · generalize (List.replicate r l).flatten.map enP = O at *
      generalize l.map enP = P at *
      generalize (l.map fun x => iN (szP x)) = Y at *
      simp only [EV0, EV1, List.nodup_nil, List.nodup_cons, List.not_mem_nil, List.mem_cons, or_false, Nat.sub_self, Nat.add_one_sub_one, Nat.zero_lt_succ, if_true, if_false, eq_self_iff_true, reduceIte, reduceCtorEq, Nat.zero_le, slv, not_false_eq_true, and_self, and_true, true_and, Bool.not_true, Bool.not_false, beq_self_eq_true, Nat.reduceAdd, Nat.reduceLT, Nat.reduceLeDiff, Nat.reduceSub, Nat.reduceEqDiff, Nat.reduceMul, Int.reduceAdd, Int.reduceLT, Int.reduceLE, Int.reduceNeg, Int.reduceEq, Int.reduceSub, decide_true, decide_false, decide_eq_true_eq, cond_true, cond_false, Int.reducePow, S0, S1, S2, S3, S45, e0, sum_ev, ps, d1, d2, qe, re, rp]
end Lw

set_option Elab.async false
set_option linter.all false
set_option maxRecDepth 100000
set_option maxHeartbeats 2000000
namespace Lw
open PySem PySem.Spec PyProof.Rows L2 Dv Lc
/-! the text of pieces -/
def spc (b : List Nat) (x : Pc) : Pc := (if x.1 = [] ∧ touchB b x.2 = true then [32] else x.1, x.2)
def sp : List Nat → List Pc → List Pc
  | _, [] => []
  | b, x :: l => spc b x :: sp x.2 l
theorem sp_len : ∀ l b, (sp b l).length = l.length
  | [], b => rfl
  | x :: l, b => by rw [sp, List.length_cons, List.length_cons, sp_len l]
theorem good_ne {w : List Nat} (h : Good w) : w ≠ [] := by
  obtain ⟨c, r, e, _⟩ := good_head h
  rw [e]; simp
theorem flat_len : ∀ (l : List Pc) (b : List Nat), (∀ x ∈ l, PcOk x) → (flat (sp b l)).length ≤ 25 * l.length
  | [], b, _ => Nat.le_refl _
  | x :: l, b, h => by
    have ih := flat_len l x.2 fun y hy => h y (List.mem_cons_of_mem _ hy)
    obtain ⟨⟨_, _, h1⟩, _, h2⟩ := h x (List.mem_cons_self ..)
    rw [sp, flat, List.length_append, List.length_append, List.length_cons]
    unfold spc
    dsimp only
    split
    · simp only [List.length_cons, List.length_nil]; omega
    · omega
def prt (x : Pc) : List Nat := x.1 ++ x.2
theorem flat_prt : ∀ l : List Pc, (l.map prt).flatten = flat l
  | [] => rfl
  | x :: l => by rw [List.map_cons, List.flatten_cons, flat_prt l, flat, prt, List.append_assoc]
theorem text_turn {k : Nat} (hk : 3 ≤ k) (a0 a1 : Slo) (ps ts : List PD) (x : Nat × Nat) (b : List Nat) (hb : b.length ≤ 100) (p : Pc) (hp : PcOk p) (a6 a7 a8 : Slo) (h1 : ps.length ≤ 100000) (h2 : ts.length ≤ 100000) :
    evS ⟨fnK rs glK k, glK⟩ (.cons (.set 8 false (.var 6)) (.cons (.ifs (.and (.cmp .eq (.var 6) (.str "")) (.call 15 (.cons (.var 5) (.cons (.var 7) .nil)))) (.cons (.set 8 false (.str " ")) .nil) .nil) (.cons (.set 4 false (.call 16 (.cons (.var 4) (.cons (.var 8) .nil)))) (.cons (.ex (.app 3 (.tup (.cons (.call 13 (.cons (.var 7) .nil)) (.cons (.var 7) (.cons (.sub (.var 4) (.int 0)) (.cons (.sub (.var 4) (.int 1)) .nil))))))) (.cons (.set 4 false (.call 16 (.cons (.var 4) (.cons (.var 7) .nil)))) (.cons (.ex (.app 2 (.bin .add (.var 8) (.var 7)))) (.cons (.set 5 false (.var 7)) .nil))))))) [a0, a1, .own none ps, .own none ts, .val (plc x), .val (tx b), .val (tx p.1), .val (tx p.2), a8]
      = some (.nx [a0, a1, .own none (ps ++ [tx (prt (spc b p))]), .own none (ts ++ [enT ⟨kindL p.2, p.2, (mv x (spc b p).1).1, (mv x (spc b p).1).2⟩]), .val (plc (mv (mv x (spc b p).1) p.2)), .val (tx p.2), .val (tx p.1), .val (tx p.2), .val (tx (spc b p).1)]) := by
  obtain ⟨⟨_, _, hg⟩, hw, hw2⟩ := hp
  have tc := touch_ok (K := k) (by omega) (b := b) (good_ne hw) (by omega) (by omega)
  have kd := lawkind_ok (K := k) (by omega) (good_ne hw) (by omega)
  have e1 := eq_tx p.1 []
  obtain ⟨s, hs⟩ : ∃ s, s = (spc b p).1 := ⟨_, rfl⟩
  have sl : s.length ≤ 12 := by
    rw [hs]; unfold spc; dsimp only
    split
    · decide
    · exact hg
  have st : evS ⟨fnK rs glK k, glK⟩ (.ifs (.and (.cmp .eq (.var 6) (.str "")) (.call 15 (.cons (.var 5) (.cons (.var 7) .nil)))) (.cons (.set 8 false (.str " ")) .nil) .nil) [a0, a1, .own none ps, .own none ts, .val (plc x), .val (tx b), .val (tx p.1), .val (tx p.2), .val (tx p.1)] = some (.nx [a0, a1, .own none ps, .own none ts, .val (plc x), .val (tx b), .val (tx p.1), .val (tx p.2), .val (tx s)]) := by
    rw [hs]
    unfold spc
    generalize plc x = P at *
    by_cases z : p.1 = []
    · rw [decide_eq_true z] at e1
      cases t : touchB b p.2 with
      | true =>
        rw [t] at tc
        rw [if_pos ⟨z, rfl⟩]
        simp only [EV0, EV1, List.nodup_nil, List.nodup_cons, List.not_mem_nil, List.mem_cons, or_false, Nat.sub_self, Nat.add_one_sub_one, Nat.zero_lt_succ, if_true, if_false, eq_self_iff_true, reduceIte, reduceCtorEq, Nat.zero_le, slv, not_false_eq_true, and_self, and_true, true_and, Bool.not_true, Bool.not_false, beq_self_eq_true, Nat.reduceAdd, Nat.reduceLT, Nat.reduceLeDiff, Nat.reduceSub, Nat.reduceEqDiff, Nat.reduceMul, Int.reduceAdd, Int.reduceLT, Int.reduceLE, Int.reduceNeg, Int.reduceEq, Int.reduceSub, decide_true, decide_false, decide_eq_true_eq, cond_true, cond_false, Int.reducePow, s_em, s_sp, e1, tc]
      | false =>
        rw [t] at tc
        rw [if_neg (by simp)]
        simp only [EV0, EV1, List.nodup_nil, List.nodup_cons, List.not_mem_nil, List.mem_cons, or_false, Nat.sub_self, Nat.add_one_sub_one, Nat.zero_lt_succ, if_true, if_false, eq_self_iff_true, reduceIte, reduceCtorEq, Nat.zero_le, slv, not_false_eq_true, and_self, and_true, true_and, Bool.not_true, Bool.not_false, beq_self_eq_true, Nat.reduceAdd, Nat.reduceLT, Nat.reduceLeDiff, Nat.reduceSub, Nat.reduceEqDiff, Nat.reduceMul, Int.reduceAdd, Int.reduceLT, Int.reduceLE, Int.reduceNeg, Int.reduceEq, Int.reduceSub, decide_true, decide_false, decide_eq_true_eq, cond_true, cond_false, Int.reducePow, s_em, s_sp, e1, tc]
    · rw [decide_eq_false z] at e1
      rw [if_neg (by simp [z])]
      simp only [EV0, EV1, List.nodup_nil, List.nodup_cons, List.not_mem_nil, List.mem_cons, or_false, Nat.sub_self, Nat.add_one_sub_one, Nat.zero_lt_succ, if_true, if_false, eq_self_iff_true, reduceIte, reduceCtorEq, Nat.zero_le, slv, not_false_eq_true, and_self, and_true, true_and, Bool.not_true, Bool.not_false, beq_self_eq_true, Nat.reduceAdd, Nat.reduceLT, Nat.reduceLeDiff, Nat.reduceSub, Nat.reduceEqDiff, Nat.reduceMul, Int.reduceAdd, Int.reduceLT, Int.reduceLE, Int.reduceNeg, Int.reduceEq, Int.reduceSub, decide_true, decide_false, decide_eq_true_eq, cond_true, cond_false, Int.reducePow, s_em, s_sp, e1]
  have m1 := moved_ok (K := k) (by omega) x (g := s) (by omega)
  have m2 := moved_ok (K := k) (by omega) (mv x s) (g := p.2) (by omega)
  have ad := add_tx (a := s) (b := p.2) (by omega)
  have g0 : subD (plc (mv x s)) (.int 0) = some (.int ((mv x s).1 : Int)) := rfl
  have g1 : subD (plc (mv x s)) (.int 1) = some (.int ((mv x s).2 : Int)) := rfl
  have f1 : ∀ y, PyData.list (plc' y) = plc y := fun _ => rfl
  have l1 : ps.length < 16777216 := by omega
  have l2 : ts.length < 16777216 := by omega
  rw [← hs, show prt (spc b p) = s ++ p.2 by unfold prt; rw [← hs]; rfl]
  rw [eS_cons]
  have s0 : evS ⟨fnK rs glK k, glK⟩ (.set 8 false (.var 6)) [a0, a1, .own none ps, .own none ts, .val (plc x), .val (tx b), .val (tx p.1), .val (tx p.2), a8] = some (.nx [a0, a1, .own none ps, .own none ts, .val (plc x), .val (tx b), .val (tx p.1), .val (tx p.2), .val (tx p.1)]) := by
    simp only [EV0, EV1, List.nodup_nil, List.nodup_cons, List.not_mem_nil, List.mem_cons, or_false, Nat.sub_self, Nat.add_one_sub_one, Nat.zero_lt_succ, if_true, if_false, eq_self_iff_true, reduceIte, reduceCtorEq, Nat.zero_le, slv, not_false_eq_true, and_self, and_true, true_and, Bool.not_true, Bool.not_false, beq_self_eq_true, Nat.reduceAdd, Nat.reduceLT, Nat.reduceLeDiff, Nat.reduceSub, Nat.reduceEqDiff, Nat.reduceMul, Int.reduceAdd, Int.reduceLT, Int.reduceLE, Int.reduceNeg, Int.reduceEq, Int.reduceSub, decide_true, decide_false, decide_eq_true_eq, cond_true, cond_false, Int.reducePow]
  rw [s0]
  dsimp only
  rw [eS_cons, st]
  dsimp only
  simp only [enT]
  generalize mv (mv x s) p.2 = v at *
  generalize mv x s = u at *
  generalize plc x = P at *
  generalize hU : plc u = U at *
  simp only [EV0, EV1, List.nodup_nil, List.nodup_cons, List.not_mem_nil, List.mem_cons, or_false, Nat.sub_self, Nat.add_one_sub_one, Nat.zero_lt_succ, if_true, if_false, eq_self_iff_true, reduceIte, reduceCtorEq, Nat.zero_le, slv, not_false_eq_true, and_self, and_true, true_and, Bool.not_true, Bool.not_false, beq_self_eq_true, Nat.reduceAdd, Nat.reduceLT, Nat.reduceLeDiff, Nat.reduceSub, Nat.reduceEqDiff, Nat.reduceMul, Int.reduceAdd, Int.reduceLT, Int.reduceLE, Int.reduceNeg, Int.reduceEq, Int.reduceSub, decide_true, decide_false, decide_eq_true_eq, cond_true, cond_false, Int.reducePow, m1, f1, hU, kd, g0, g1, m2, ad, l1, l2]
theorem text_loop {k : Nat} (hk : 3 ≤ k) (a0 a1 : Slo) : ∀ (l : List Pc) (ps ts : List PD) (x : Nat × Nat) (b : List Nat) (a6 a7 a8 : Slo), (∀ p ∈ l, PcOk p) → b.length ≤ 100 → ps.length + l.length ≤ 50000 → ts.length + l.length ≤ 50000 →
    ∃ (b5 b6 b7 b8 : Slo), lpS ⟨fnK rs glK k, glK⟩ (.tup (.cons (.var 6) (.cons (.var 7) .nil))) (.cons (.set 8 false (.var 6)) (.cons (.ifs (.and (.cmp .eq (.var 6) (.str "")) (.call 15 (.cons (.var 5) (.cons (.var 7) .nil)))) (.cons (.set 8 false (.str " ")) .nil) .nil) (.cons (.set 4 false (.call 16 (.cons (.var 4) (.cons (.var 8) .nil)))) (.cons (.ex (.app 3 (.tup (.cons (.call 13 (.cons (.var 7) .nil)) (.cons (.var 7) (.cons (.sub (.var 4) (.int 0)) (.cons (.sub (.var 4) (.int 1)) .nil))))))) (.cons (.set 4 false (.call 16 (.cons (.var 4) (.cons (.var 7) .nil)))) (.cons (.ex (.app 2 (.bin .add (.var 8) (.var 7)))) (.cons (.set 5 false (.var 7)) .nil))))))) (l.map enP) [a0, a1, .own none ps, .own none ts, .val (plc x), .val (tx b), a6, a7, a8]
      = some (.nx [a0, a1, .own none (ps ++ ((sp b l).map prt).map tx), .own none (ts ++ (tks x (sp b l)).map enT), .val (plc (mv x (flat (sp b l)))), b5, b6, b7, b8])
  | [], ps, ts, x, b, a6, a7, a8, _, _, _, _ => ⟨_, _, _, _, by rw [List.map_nil, lp_nil, sp, tks, flat, List.map_nil, List.map_nil, List.map_nil, List.append_nil, List.append_nil, mv_nil]⟩
  | p :: l, ps, ts, x, b, a6, a7, a8, h, hb, h1, h2 => by
    simp only [List.length_cons] at h1 h2
    have hp := h p (List.mem_cons_self ..)
    have tt := text_turn hk a0 a1 ps ts x b hb p hp a6 a7 a8 (by omega) (by omega)
    obtain ⟨c5, c6, c7, c8, e⟩ := text_loop hk a0 a1 l (ps ++ [tx (prt (spc b p))]) (ts ++ [enT ⟨kindL p.2, p.2, (mv x (spc b p).1).1, (mv x (spc b p).1).2⟩]) (mv (mv x (spc b p).1) p.2) p.2 (.val (tx p.1)) (.val (tx p.2)) (.val (tx (spc b p).1)) (fun y hy => h y (List.mem_cons_of_mem _ hy)) (by have := hp.2.2; omega) (by simp only [List.length_append, List.length_cons, List.length_nil]; omega) (by simp only [List.length_append, List.length_cons, List.length_nil]; omega)
    refine ⟨c5, c6, c7, c8, ?_⟩
    rw [List.map_cons, lp_go (ρ1 := [a0, a1, .own none ps, .own none ts, .val (plc x), .val (tx b), .val (tx p.1), .val (tx p.2), a8]) rfl tt, e]
    have e2 : (spc b p).2 = p.2 := rfl
    have e3 : tks x (spc b p :: sp p.2 l) = ⟨kindL p.2, p.2, (mv x (spc b p).1).1, (mv x (spc b p).1).2⟩ :: tks (mv (mv x (spc b p).1) p.2) (sp p.2 l) := rfl
    rw [sp, List.map_cons, List.map_cons, e3, List.map_cons, flat, mv_app, mv_app, e2, List.append_assoc, List.append_assoc, List.singleton_append, List.singleton_append]
theorem text_ok {K : Nat} (hK : 4 ≤ K) (l : List Pc) (hl : l.length ≤ 450) (h : ∀ p ∈ l, PcOk p) (t : List Nat) (ht : t.length ≤ 100) :
    fnK rs glK K 18 [.val (.list (l.map enP)), .val (tx t)] = some (.own none [tx (flat (sp [] l) ++ t), .list ((tks (1, 1) (sp [] l)).map enT), plc (pos (flat (sp [] l) ++ t))], [.un, .un]) := by
  obtain ⟨k, rfl⟩ : ∃ k, K = k + 1 := ⟨K - 1, by omega⟩
  obtain ⟨c5, c6, c7, c8, lp⟩ := text_loop (k := k) (by omega) (.val (.list (l.map enP))) (.val (tx t)) l [] [] (1, 1) [] .un .un .un h (by simp) (by simp only [List.length_nil]; omega) (by simp only [List.length_nil]; omega)
  rw [List.nil_append, List.nil_append] at lp
  have fl := flat_len l [] h
  have sm : (((sp [] l).map prt).map List.length).sum = (flat (sp [] l)).length := by
    rw [← flat_prt, List.length_flatten]
  have jn := join_tx (ys := (sp [] l).map prt) (a := []) (by rw [sm]; simp only [List.length_nil, Nat.mul_zero]; omega)
  rw [joinL_nil, flat_prt] at jn
  have ad := add_tx (a := flat (sp [] l)) (b := t) (by omega)
  have mo := moved_ok (K := k) (by omega) (mv (1, 1) (flat (sp [] l))) (g := t) (by omega)
  rw [← mv_app, show mv (1, 1) (flat (sp [] l) ++ t) = pos (flat (sp [] l) ++ t) from rfl] at mo
  have p11 : PyData.list [.int 1, .int 1] = plc (1, 1) := rfl
  have f1 : ∀ y, PyData.list (plc' y) = plc y := fun _ => rfl
  rw [s_em] at lp
  rw [run18]
  generalize (tks (1, 1) (sp [] l)).map enT = TK at *
  generalize ((sp [] l).map prt).map tx = PT at *
  generalize pos (flat (sp [] l) ++ t) = PO at *
  generalize mv (1, 1) (flat (sp [] l)) = MM at *
  generalize flat (sp [] l) ++ t = FT at *
  generalize flat (sp [] l) = FL at *
  generalize l.map enP = LE at *
  generalize hM : plc MM = M at *
  generalize hO : plc PO = O at *
  generalize hQ : plc (1, 1) = Q at *
  simp only [EV0, EV1, List.nodup_nil, List.nodup_cons, List.not_mem_nil, List.mem_cons, or_false, Nat.sub_self, Nat.add_one_sub_one, Nat.zero_lt_succ, if_true, if_false, eq_self_iff_true, reduceIte, reduceCtorEq, Nat.zero_le, slv, not_false_eq_true, and_self, and_true, true_and, Bool.not_true, Bool.not_false, beq_self_eq_true, Nat.reduceAdd, Nat.reduceLT, Nat.reduceLeDiff, Nat.reduceSub, Nat.reduceEqDiff, Nat.reduceMul, Int.reduceAdd, Int.reduceLT, Int.reduceLE, Int.reduceNeg, Int.reduceEq, Int.reduceSub, decide_true, decide_false, decide_eq_true_eq, cond_true, cond_false, Int.reducePow, s_em, p11, hQ, lp, jn, ad, mo, f1, hO, hM]
end Lw

set_option Elab.async false
set_option linter.all false
set_option maxRecDepth 100000
set_option maxHeartbeats 2000000
namespace Lw
open PySem PySem.Spec PyProof.Rows L2 Dv Lc
/-! the text is read as it was made -/
theorem fol_head {w f : List Nat} (h : headS f) : Fol w f := by
  refine ⟨fun _ c hc => ?_, fun _ z => ?_⟩
  · have := h c hc
    cases e : runC c with
    | false => rfl
    | true =>
      have q := (runC_iff c).mp e
      omega
  · have := h 61 z
    omega
theorem headS_app {a f : List Nat} (hn : a ≠ []) (h : headS a) : headS (a ++ f) := by
  cases a with
  | nil => exact absurd rfl hn
  | cons c a => exact fun d hd => h d hd
theorem spc_gap {b : List Nat} {x : Pc} (h : PcOk x) : (∀ f, Sk (spc b x).1 f) ∧ headS (spc b x).1 := by
  unfold spc
  dsimp only
  split
  · exact ⟨fun f => .sp .nil, hs1 (by simp)⟩
  · exact ⟨h.1.1, h.1.2.1⟩
theorem runw_last {w : List Nat} (h : RunW w) : runC (lastC w) = true := by
  unfold lastC
  rw [List.getLastD_eq_getLast?, List.getLast?_eq_some_getLast h.1]
  exact List.all_eq_true.mp h.2.1 _ (List.getLast_mem h.1)
theorem fol_next {w : List Nat} (hw : Good w) (x : Pc) (hx : PcOk x) (r : List Nat) : Fol w ((spc w x).1 ++ (x.2 ++ r)) := by
  by_cases z : (spc w x).1 = []
  · rw [z, List.nil_append]
    have t : touchB w x.2 = false := by
      unfold spc at z
      dsimp only at z
      split at z
      · cases z
      · rename_i q
        cases e : touchB w x.2 with
        | false => rfl
        | true => exact absurd ⟨z, e⟩ q
    unfold touchB at t
    rw [decide_eq_false (good_ne hw), Bool.not_false, Bool.true_and, Bool.or_eq_false_iff] at t
    obtain ⟨c, q, e, _⟩ := good_head hx.2.1
    rw [e] at t ⊢
    refine ⟨fun hr d hd => ?_, fun hm hd => ?_⟩
    · have t1 := t.1
      rw [runw_last hr, Bool.true_and] at t1
      simp only [List.cons_append, List.head?_cons, Option.some.injEq] at hd
      rw [← hd]
      exact t1
    · have t2 := t.2
      rw [decide_eq_true hm, Bool.true_and] at t2
      simp only [List.cons_append, List.head?_cons, Option.some.injEq] at hd
      simp only [headC] at t2
      rw [hd] at t2
      cases t2
  · exact fol_head (headS_app z (spc_gap hx).2)
theorem okl : ∀ (l : List Pc) (b t : List Nat), (∀ x ∈ l, PcOk x) → Sk t [] → headS t → OkL (sp b l) t
  | [], b, t, _, ht, _ => .nil ht
  | x :: l, b, t, h, ht, hs => by
    have hx := h x (List.mem_cons_self ..)
    have ih := okl l x.2 t (fun y hy => h y (List.mem_cons_of_mem _ hy)) ht hs
    show OkL (((spc b x).1, x.2) :: sp x.2 l) t
    refine .cons ((spc_gap hx).1 _) hx.2.1 ?_ ih
    cases l with
    | nil => exact fol_head hs
    | cons y l =>
      have hy := h y (List.mem_cons_of_mem _ (List.mem_cons_self ..))
      show Fol x.2 (((spc x.2 y).1 ++ (y.2 ++ flat (sp y.2 l))) ++ t)
      rw [List.append_assoc, List.append_assoc]
      exact fol_next hx.2.1 y hy _
/-! two texts, a line feed between -/
theorem sk_more {g f : List Nat} (h : Sk g f) (q : List Nat) : Sk g (f ++ 10 :: q) := by
  induction h with
  | nil => exact .nil
  | sp _ ih => exact .sp ih
  | nl _ ih => exact .nl ih
  | @rem b g f hb hq _ ih =>
    refine .rem hb (.inr ?_) ih
    rw [← List.append_assoc]
    rcases hq with z | z
    · rw [z]; rfl
    · cases e : g ++ f with
      | nil => rw [e] at z; cases z
      | cons c r => rw [e] at z; exact z
theorem fol_more {w f : List Nat} (h : Fol w f) (q : List Nat) : Fol w (f ++ 10 :: q) := by
  cases f with
  | nil => exact fol_head (hs1 (by simp))
  | cons c f => exact h
def joinP (l1 : List Pc) (t1 : List Nat) : List Pc → List Nat → List Pc × List Nat
  | [], t2 => (l1, t1 ++ 10 :: t2)
  | (g, w) :: r, t2 => (l1 ++ (t1 ++ 10 :: g, w) :: r, t2)
theorem join_flat (l1 : List Pc) (t1 : List Nat) (l2 : List Pc) (t2 : List Nat) : flat (joinP l1 t1 l2 t2).1 ++ (joinP l1 t1 l2 t2).2 = (flat l1 ++ t1) ++ 10 :: (flat l2 ++ t2) := by
  cases l2 with
  | nil => simp [joinP, flat]
  | cons x r =>
    obtain ⟨g, w⟩ := x
    simp [joinP, flat, flat_app]
theorem okl_app {l1 : List Pc} {t1 : List Nat} (h1 : OkL l1 t1) : ∀ {l : List Pc} {t q : List Nat}, flat l ++ t = t1 ++ 10 :: q → OkL l t → OkL (l1 ++ l) t := by
  induction h1 with
  | nil _ => intro l t q _ h; exact h
  | @cons g w l1 t1 hs hw hf _ ih =>
    intro l t q e h
    have e2 : flat (l1 ++ l) ++ t = (flat l1 ++ t1) ++ 10 :: q := by rw [flat_app, List.append_assoc, e, List.append_assoc]
    show OkL ((g, w) :: (l1 ++ l)) t
    refine .cons ?_ hw ?_ (ih e h)
    · rw [e2, ← List.append_assoc]
      exact sk_more hs q
    · rw [e2]
      exact fol_more hf q
theorem okl_join {l1 l2 : List Pc} {t1 t2 : List Nat} (h1 : OkL l1 t1) (ht1 : Sk t1 []) (h2 : OkL l2 t2) : OkL (joinP l1 t1 l2 t2).1 (joinP l1 t1 l2 t2).2 := by
  cases h2 with
  | nil ht2 =>
    have k : Sk (t1 ++ 10 :: t2) [] := sk_app (f1 := 10 :: t2) (by have := sk_more ht1 t2; rwa [List.nil_append] at this) (by rw [List.append_nil]) (.nl ht2)
    show OkL l1 (t1 ++ 10 :: t2)
    have := okl_app h1 (l := []) (t := t1 ++ 10 :: t2) (q := t2) rfl (.nil k)
    rwa [List.append_nil] at this
  | @cons g w r _ hs hw hf hr =>
    show OkL (l1 ++ (t1 ++ 10 :: g, w) :: r) t2
    refine okl_app h1 (q := g ++ (w ++ flat r) ++ t2) (by simp [flat]) (.cons ?_ hw hf hr)
    refine sk_app (f1 := 10 :: (g ++ (w ++ (flat r ++ t2)))) ?_ (by simp) (.nl hs)
    have := sk_more ht1 (g ++ (w ++ (flat r ++ t2)))
    rwa [List.nil_append] at this
def shT (k : Nat) (t : Tok) : Tok := ⟨t.kd, t.w, t.r + k, t.c⟩
theorem tks_shift : ∀ (l : List Pc) (r c k : Nat), tks (r + k, c) l = (tks (r, c) l).map (shT k)
  | [], r, c, k => rfl
  | (g, w) :: l, r, c, k => by
    rw [tks, tks, List.map_cons]
    have e := mv_shift g r c k
    have e2 := mv_shift w (mv (r, c) g).1 (mv (r, c) g).2 k
    rw [e]
    have e3 : mv ((mv (r, c) g).1 + k, (mv (r, c) g).2) w = ((mv (mv (r, c) g) w).1 + k, (mv (mv (r, c) g) w).2) := e2
    rw [e3, tks_shift l]
    rfl
theorem mv_nl (x : Nat × Nat) (g : List Nat) (t : List Nat) : mv x (t ++ 10 :: g) = ((mv (1, 1) g).1 + (mv x t).1, (mv (1, 1) g).2) := by
  rw [mv_app]
  show mv (mv1 (mv x t) 10) g = _
  rw [show mv1 (mv x t) 10 = (1 + (mv x t).1, 1) by unfold mv1; rw [if_pos rfl, Nat.add_comm], mv_shift]
theorem join_tks (l1 : List Pc) (t1 : List Nat) (l2 : List Pc) (t2 : List Nat) : tks (1, 1) (joinP l1 t1 l2 t2).1 = tks (1, 1) l1 ++ (tks (1, 1) l2).map (shT (pos (flat l1 ++ t1)).1) := by
  cases l2 with
  | nil => show tks (1, 1) l1 = _; rw [tks, List.map_nil, List.append_nil]
  | cons x r =>
    obtain ⟨g, w⟩ := x
    show tks (1, 1) (l1 ++ (t1 ++ 10 :: g, w) :: r) = _
    rw [tks_app, tks, tks, List.map_cons]
    have e := mv_nl (mv (1, 1) (flat l1)) g t1
    have e1 : (mv (mv (1, 1) (flat l1)) t1).1 = (pos (flat l1 ++ t1)).1 := by unfold pos; rw [mv_app]
    rw [e1] at e
    rw [e]
    have e2 := mv_shift w (mv (1, 1) g).1 (mv (1, 1) g).2 (pos (flat l1 ++ t1)).1
    rw [e2, tks_shift]
    rfl
theorem pos_join (T1 T2 : List Nat) : pos (T1 ++ 10 :: T2) = ((pos T2).1 + (pos T1).1, (pos T2).2) := mv_nl (1, 1) T2 T1
def endT (T : List Nat) : Tok := ⟨"end", [], (pos T).1, (pos T).2⟩
def allT (l : List Pc) (t : List Nat) : List Tok := tks (1, 1) l ++ [endT (flat l ++ t)]
theorem join_all (l1 : List Pc) (t1 : List Nat) (l2 : List Pc) (t2 : List Nat) : allT (joinP l1 t1 l2 t2).1 (joinP l1 t1 l2 t2).2 = tks (1, 1) l1 ++ (allT l2 t2).map (shT (pos (flat l1 ++ t1)).1) := by
  unfold allT
  rw [join_tks, join_flat, List.map_append, List.append_assoc]
  congr 2
  rw [List.map_cons, List.map_nil]
  unfold endT
  rw [pos_join]
  rfl
theorem strOk_of {l : List Nat} (h : ∀ c ∈ l, c < 200) : PyData.strOk (S l) = true := by
  unfold PyData.strOk
  rw [← Array.all_toList]
  exact List.all_eq_true.mpr fun c hc => decide_eq_true (Nat.lt_trans (h c hc) (by decide))
theorem kind_strOk (w : List Nat) : PyData.strOk (kindL w) = true := by
  unfold kindL
  split
  · decide +kernel
  · split
    · decide +kernel
    · split <;> decide +kernel
theorem good_lt {w : List Nat} (h : Good w) : ∀ c ∈ w, c < 200 := by
  rcases h with h | h
  · intro c hc
    have := (runC_iff c).mp (List.all_eq_true.mp h.2.1 c hc)
    omega
  · have : ∀ w ∈ signsL, ∀ c ∈ w, c < 200 := by decide
    exact this w h
theorem tks_ok : ∀ (l : List Pc) (x : Nat × Nat), (∀ p ∈ l, Good p.2) → ∀ t ∈ tks x l, TokOk t
  | [], x, _, t, ht => by cases ht
  | (g, w) :: l, x, h, t, ht => by
    rw [tks] at ht
    rcases List.mem_cons.mp ht with rfl | ht
    · exact ⟨kind_strOk w, strOk_of (good_lt (h (g, w) (List.mem_cons_self ..)))⟩
    · exact tks_ok l _ (fun p hp => h p (List.mem_cons_of_mem _ hp)) t ht
theorem sp_good : ∀ (l : List Pc) (b : List Nat), (∀ x ∈ l, PcOk x) → ∀ p ∈ sp b l, Good p.2
  | [], b, _, p, hp => by cases hp
  | x :: l, b, h, p, hp => by
    rw [sp] at hp
    rcases List.mem_cons.mp hp with rfl | hp
    · exact (h x (List.mem_cons_self ..)).2.1
    · exact sp_good l _ (fun y hy => h y (List.mem_cons_of_mem _ hy)) p hp
theorem end_ok1 : PyData.strOk "end" = true := by decide +kernel
theorem end_ok2 : PyData.strOk (S []) = true := by decide +kernel
theorem end_ok (T : List Nat) : TokOk (endT T) := ⟨end_ok1, end_ok2⟩
theorem all_ok {l : List Pc} {b t : List Nat} (h : ∀ x ∈ l, PcOk x) : ∀ q ∈ allT (sp b l) t, TokOk q := fun q hq => by
  unfold allT at hq
  rcases List.mem_append.mp hq with hq | hq
  · exact tks_ok _ _ (sp_good l b h) q hq
  · rw [List.mem_singleton.mp hq]; exact end_ok _
end Lw

set_option Elab.async false
set_option linter.all false
set_option maxRecDepth 100000
set_option maxHeartbeats 4000000
namespace Lw
open PySem PySem.Spec PyProof.Rows L2 Dv Lc
/-- what a half is -/
structure Half (l : List Pc) (t : List Nat) : Prop where
  pc : ∀ x ∈ l, PcOk x
  len : l.length ≤ 450
  sk : Sk t []
  hs : headS t
  tl : t.length ≤ 20
def txtL (l : List Pc) (t : List Nat) : List Nat := flat (sp [] l) ++ t
def tokL (l : List Pc) : List Tok := tks (1, 1) (sp [] l)
def one3 (l : List Pc) (t : List Nat) : PD := .list [tx (txtL l t), .list ((tokL l).map enT), plc (pos (txtL l t))]
theorem half_ok {K : Nat} (hK : 5 ≤ K) (ns : List Int) (hd : List Nat) (at_ i j q : Nat) (hl : hd.length = 20) (hi : i < 20) (hj : j < 20) (hq : q + 7 ≤ 20) (a0 a2 : Slo) (long : Bool) (c : Int) (cc : Int) :
    ∃ (l : List Pc) (t : List Nat), Half l t ∧ ∃ (d : Nat) (e : Nat) (b : List Nat), subD (dl hd) (.int (i : Int)) = some (.int (d : Int)) ∧ subD (dl hd) (.int (j : Int)) = some (.int (e : Int)) ∧
      fnK rs glK K 14 [.val (dl hd), .val (.int (q : Int))] = some (.val (tx (35 :: b)), [.un, .un]) ∧
      fnK rs glK K 17 [.val (.list (ns.map PyData.int)), .val (.int (at_ : Int)), .val (.int ((d % 31 : Nat) : Int)), .val (.bool long)] = some (.own none (l.map enP), [.un, .un, .un, .un]) ∧
      fnK rs glK K 19 [.val (.int (e : Int)), .val (tx (35 :: b))] = some (.val (tx t), [.un, .un]) ∧
      fnK rs glK K 18 [.val (.list (l.map enP)), .val (tx t)] = some (.own none [tx (txtL l t), .list ((tokL l).map enT), plc (pos (txtL l t))], [.un, .un]) := by
  have s1 := sub_dl (ds := hd) (i := (i : Int)) i rfl (by omega)
  have s2 := sub_dl (ds := hd) (i := (j : Int)) j rfl (by omega)
  obtain ⟨b, b1, b2, b3⟩ := remark_ok (K := K) (by omega) hd q (by omega)
  obtain ⟨t, t1, t2, t3, t4⟩ := tail_ok (K := K) (by omega) hd[j] b1 b2
  obtain ⟨l, l1, l2, l3⟩ := pieces_ok (K := K) (by omega) ns at_ (hd[i] % 31) (by have := Nat.mod_lt hd[i] (show 0 < 31 by decide); omega) long
  have tk := text_ok (K := K) (by omega) l l2 l1 t (by omega)
  exact ⟨l, t, ⟨l1, l2, t1, t2, t3⟩, hd[i], hd[j], b, s1, s2, b3, l3, t4, tk⟩
theorem all_map (l : List Pc) (t : List Nat) : (allT (sp [] l) t).map enT = (tokL l).map enT ++ [enT (endT (txtL l t))] := by
  unfold allT tokL txtL
  rw [List.map_append, List.map_cons, List.map_nil]
theorem all_len {l : List Pc} {t : List Nat} (h : Half l t) : (allT (sp [] l) t).length ≤ 500 := by
  unfold allT
  rw [List.length_append, tks_len, sp_len, List.length_cons, List.length_nil]
  have := h.len
  omega
theorem txt_len {l : List Pc} {t : List Nat} (h : Half l t) : (txtL l t).length ≤ 12000 := by
  unfold txtL
  have := flat_len l [] h.pc
  have h1 := h.len
  have h2 := h.tl
  rw [List.length_append]
  omega
theorem lex1 {K : Nat} (hK : 4 ≤ K) {l : List Pc} {t : List Nat} (h : Half l t) : fnK rs glK K 5 [.val (tx (txtL l t))] = some (.own none ((allT (sp [] l) t).map enT), [.un]) := by
  have := list_ok hK (okl l [] t h.pc h.sk h.hs) (by have := txt_len h; unfold txtL at this; omega) (by rw [sp_len]; have := h.len; omega)
  rw [all_map]
  exact this
theorem lex2 {K : Nat} (hK : 4 ≤ K) {l1 l2 : List Pc} {t1 t2 : List Nat} (h1 : Half l1 t1) (h2 : Half l2 t2) : fnK rs glK K 5 [.val (tx (txtL l1 t1 ++ 10 :: txtL l2 t2))] = some (.own none ((tokL l1).map enT ++ ((allT (sp [] l2) t2).map (shT (pos (txtL l1 t1)).1)).map enT), [.un]) := by
  have jf := join_flat (sp [] l1) t1 (sp [] l2) t2
  have n1 := txt_len h1
  have n2 := txt_len h2
  unfold txtL at *
  have ll : (joinP (sp [] l1) t1 (sp [] l2) t2).1.length ≤ 50000 := by
    have e := join_tks (sp [] l1) t1 (sp [] l2) t2
    have e' := congrArg List.length e
    rw [tks_len, List.length_append, List.length_map, tks_len, tks_len, sp_len, sp_len] at e'
    have := h1.len
    have := h2.len
    omega
  have := list_ok hK (okl_join (okl l1 [] t1 h1.pc h1.sk h1.hs) h1.sk (okl l2 [] t2 h2.pc h2.sk h2.hs)) (by rw [jf]; simp only [List.length_append, List.length_cons] at n1 n2 ⊢; omega) ll
  rw [jf] at this
  rw [this]
  have ja := join_all (sp [] l1) t1 (sp [] l2) t2
  have ja2 := congrArg (List.map enT) ja
  unfold allT at ja2
  rw [List.map_append, List.map_append, jf] at ja2
  unfold tokL allT
  rw [← ja2]
  rfl
theorem sh_ok {t : Tok} (k : Nat) (h : TokOk t) : TokOk (shT k t) := h
abbrev elJ : Ir := (.tup (.cons (.sub (.var 9) (.int 0)) (.cons (.sub (.var 9) (.int 1)) (.cons (.bin .add (.sub (.var 9) (.int 2)) (.var 5)) (.cons (.sub (.var 9) (.int 3)) .nil)))))
theorem elJ_ok (C : Cfg) (t : Tok) (k : Nat) (a0 a1 a2 a3 a4 a6 a7 a8 a10 : Slo) : evX C elJ [a0, a1, a2, a3, a4, .val (.int (k : Int)), a6, a7, a8, .val (enT t), a10] = some (.val (enT (shT k t)), [a0, a1, a2, a3, a4, .val (.int (k : Int)), a6, a7, a8, .val (enT t), a10]) := by
  have g0 : subD (enT t) (.int 0) = some (.str t.kd) := rfl
  have g1 : subD (enT t) (.int 1) = some (tx t.w) := rfl
  have g2 : subD (enT t) (.int 2) = some (.int (t.r : Int)) := rfl
  have g3 : subD (enT t) (.int 3) = some (.int (t.c : Int)) := rfl
  have ad : bopD .add (.int (t.r : Int)) (.int (k : Int)) = some (.val (.int ((t.r + k : Nat) : Int))) := rfl
  have e : enT (shT k t) = .tuple [.str t.kd, tx t.w, .int ((t.r + k : Nat) : Int), .int (t.c : Int)] := rfl
  rw [e]
  generalize enT t = T at *
  simp only [EV0, EV1, List.nodup_nil, List.nodup_cons, List.not_mem_nil, List.mem_cons, or_false, Nat.sub_self, Nat.add_one_sub_one, Nat.zero_lt_succ, if_true, if_false, eq_self_iff_true, reduceIte, reduceCtorEq, Nat.zero_le, slv, not_false_eq_true, and_self, and_true, true_and, Bool.not_true, Bool.not_false, beq_self_eq_true, Nat.reduceAdd, Nat.reduceLT, Nat.reduceLeDiff, Nat.reduceSub, Nat.reduceEqDiff, Nat.reduceMul, Int.reduceAdd, Int.reduceLT, Int.reduceLE, Int.reduceNeg, Int.reduceEq, Int.reduceSub, decide_true, decide_false, decide_eq_true_eq, cond_true, cond_false, Int.reducePow, g0, g1, g2, g3, ad]
theorem win0 (ns : List Int) : ∃ os, fnK rs glK 40 21 [.val (.list (ns.map PyData.int))] = some (.val (.bool true), os) := by
  obtain ⟨K, hK, hk⟩ : ∃ K, (40 : Nat) = K + 1 ∧ 10 ≤ K := ⟨39, rfl, by decide⟩
  rw [hK, run21]
  clear hK
  obtain ⟨c0, e0⟩ := cell_ok (K := K) (by omega) ns 0
  obtain ⟨hd, h1, h2, h3⟩ := draws_ok (K := K) (by omega) c0 20 (by omega)
  have z0 : ((0 : Nat) : Int) = 0 := rfl
  have z20 : ((20 : Nat) : Int) = 20 := rfl
  rw [z0] at e0
  rw [z20] at h3
  have s0 := sub_dl (ds := hd) (i := 0) 0 rfl (by omega)
  generalize hd[0] = d0 at s0
  obtain ⟨long, lg⟩ : ∃ long, copD .eq (.int ((d0 : Int) % 16)) (.int 5) = some long := ⟨_, rfl⟩
  have m16 : bopD .mod (.int (d0 : Int)) (.int 16) = some (.val (.int ((d0 : Int) % 16))) := rfl
  have pI : ∀ d : Nat, prD .int [.int (d : Int)] = some (.val (.int (d : Int))) := fun _ => rfl
  have m31 : ∀ d : Nat, bopD .mod (.int (d : Int)) (.int 31) = some (.val (.int ((d % 31 : Nat) : Int))) := fun _ => rfl
  obtain ⟨l1, t1, H1, d1, x1, b1, p1, p2, p3, p4, p5, p6⟩ := half_ok (K := K) (by omega) ns hd 1 1 2 5 h1 (by omega) (by omega) (by omega) .un .un long 0 0
  obtain ⟨l2, t2, H2, d2, x2, b2, q1, q2, q3, q4, q5, q6⟩ := half_ok (K := K) (by omega) ns hd 5 3 4 12 h1 (by omega) (by omega) (by omega) .un .un long 0 0
  have z1 : ((1 : Nat) : Int) = 1 := rfl
  have z2 : ((2 : Nat) : Int) = 2 := rfl
  have z3 : ((3 : Nat) : Int) = 3 := rfl
  have z4 : ((4 : Nat) : Int) = 4 := rfl
  have z5 : ((5 : Nat) : Int) = 5 := rfl
  have z12 : ((12 : Nat) : Int) = 12 := rfl
  rw [z1] at p1 p4
  rw [z2] at p2
  rw [z5] at p3 q4
  rw [z3] at q1
  rw [z4] at q2
  rw [z12] at q3
  have L1 := lex1 (K := K) (by omega) H1
  have L2' := lex1 (K := K) (by omega) H2
  have LJ := lex2 (K := K) (by omega) H1 H2
  have A1 := same_own (K := K) (by omega) (allT (sp [] l1) t1) (all_ok H1.pc) (by have := all_len H1; omega)
  have A1' := same_ok (K := K) (by omega) (allT (sp [] l1) t1) (all_ok H1.pc) (by have := all_len H1; omega)
  have A2 := same_ok (K := K) (by omega) (allT (sp [] l2) t2) (all_ok H2.pc) (by have := all_len H2; omega)
  have tl1 : (tokL l1).length ≤ 500 := by unfold tokL; rw [tks_len, sp_len]; have := H1.len; omega
  have tl2 : (tokL l2).length ≤ 500 := by unfold tokL; rw [tks_len, sp_len]; have := H2.len; omega
  have AJ := same_ok (K := K) (by omega) (tokL l1 ++ (allT (sp [] l2) t2).map (shT (pos (txtL l1 t1)).1)) (fun q hq => by
    rcases List.mem_append.mp hq with hq | hq
    · exact tks_ok _ _ (sp_good l1 [] H1.pc) q hq
    · obtain ⟨u, hu, rfl⟩ := List.mem_map.mp hq
      exact sh_ok _ (all_ok H2.pc u hu)) (by have := all_len H2; rw [List.length_append, List.length_map]; omega)
  rw [List.map_append] at AJ
  have n1 := txt_len H1
  have n2 := txt_len H2
  have ad1 := add_tx (a := txtL l1 t1) (b := [10]) (by simp only [List.length_cons, List.length_nil]; omega)
  have ad2 := add_tx (a := txtL l1 t1 ++ [10]) (b := txtL l2 t2) (by rw [List.length_append]; simp only [List.length_cons, List.length_nil]; omega)
  rw [List.append_assoc, List.singleton_append] at ad2
  have cc : ∀ (l : List Pc) (t : List Nat), Half l t → (tokL l).length ≤ 500 → bopD .add (.list ((tokL l).map enT)) (.list [.tuple [.str "end", .str "", .int ((pos (txtL l t)).1 : Int), .int ((pos (txtL l t)).2 : Int)]]) = some (.own none ((allT (sp [] l) t).map enT)) := fun l t H tl => by
    rw [all_map]
    have q : ((tokL l).map enT).length + [PyData.tuple [.str "end", .str "", .int ((pos (txtL l t)).1 : Int), .int ((pos (txtL l t)).2 : Int)]].length ≤ sizeLine := by
      rw [List.length_map, List.length_cons, List.length_nil, slv]; omega
    simp only [bopD, if_pos q]
    rw [s_em]
    rfl
  have ad3 := cc l1 t1 H1 tl1
  have ad4 := cc l2 t2 H2 tl2
  have ad5 : bopD .add (.list ((tokL l1).map enT)) (.list (((allT (sp [] l2) t2).map (shT (pos (txtL l1 t1)).1)).map enT)) = some (.own none ((tokL l1).map enT ++ ((allT (sp [] l2) t2).map (shT (pos (txtL l1 t1)).1)).map enT)) := by
    have q : ((tokL l1).map enT).length + (((allT (sp [] l2) t2).map (shT (pos (txtL l1 t1)).1)).map enT).length ≤ sizeLine := by
      have := all_len H2
      rw [List.length_map, List.length_map, List.length_map, slv]; omega
    simp only [bopD, if_pos q]
  have ol1 : ∀ (l : List Pc) (t : List Nat), subD (one3 l t) (.int 0) = some (tx (txtL l t)) ∧ subD (one3 l t) (.int 1) = some (.list ((tokL l).map enT)) ∧ subD (one3 l t) (.int 2) = some (plc (pos (txtL l t))) := fun l t => ⟨rfl, rfl, rfl⟩
  have pl : ∀ x : Nat × Nat, subD (plc x) (.int 0) = some (.int (x.1 : Int)) ∧ subD (plc x) (.int 1) = some (.int (x.2 : Int)) := fun x => ⟨rfl, rfl⟩
  have ma := m31 d1
  have mb := m31 d2
  generalize d1 % 31 = M1 at *
  generalize d2 % 31 = M2 at *
  obtain ⟨o10, o11, o12⟩ := ol1 l1 t1
  obtain ⟨o20, o21, o22⟩ := ol1 l2 t2
  have pl1 := pl (pos (txtL l1 t1))
  have pl2 := pl (pos (txtL l2 t2))
  have f1 : PyData.list [tx (txtL l1 t1), .list ((tokL l1).map enT), plc (pos (txtL l1 t1))] = one3 l1 t1 := rfl
  have f2 : PyData.list [tx (txtL l2 t2), .list ((tokL l2).map enT), plc (pos (txtL l2 t2))] = one3 l2 t2 := rfl
  have cm := cm_all ⟨fnK rs glK K, glK⟩ (.var 9) elJ [.val (.list (ns.map PyData.int)), .val (dl hd), .val (.bool long), .val (one3 l1 t1), .val (one3 l2 t2), .val (.int ((pos (txtL l1 t1)).1 : Int)), .val (.list ((allT (sp [] l1) t1).map enT)), .val (.list ((allT (sp [] l2) t2).map enT)), .un, .un, .un] ((allT (sp [] l2) t2).map enT) ((allT (sp [] l2) t2).map fun t => enT (shT (pos (txtL l1 t1)).1 t)) []
    (F2.of_map enT _ _ fun t ht => ⟨_, _, rfl, elJ_ok _ t (pos (txtL l1 t1)).1 ..⟩) (by have := all_len H2; rw [List.length_map, List.length_nil]; omega)
  rw [List.nil_append, show (fun t => enT (shT (pos (txtL l1 t1)).1 t)) = enT ∘ shT (pos (txtL l1 t1)).1 from rfl, ← List.map_map] at cm
  have hdl : PyData.list (hd.map iN) = dl hd := rfl
  generalize ns.map PyData.int = N at *
  generalize dl hd = D at *
  generalize one3 l1 t1 = O1 at *
  generalize one3 l2 t2 = O2 at *
  generalize ((allT (sp [] l2) t2).map (shT (pos (txtL l1 t1)).1)).map enT = XS at *
  generalize (allT (sp [] l1) t1).map enT = X1 at *
  generalize (allT (sp [] l2) t2).map enT = X2 at *
  generalize (tokL l1).map enT = Y1 at *
  generalize (tokL l2).map enT = Y2 at *
  generalize pos (txtL l1 t1) = P1 at *
  generalize pos (txtL l2 t2) = P2 at *
  generalize hU1 : plc P1 = U1 at *
  generalize hU2 : plc P2 = U2 at *
  generalize txtL l1 t1 ++ 10 :: txtL l2 t2 = T12 at *
  generalize txtL l1 t1 ++ [10] = T11 at *
  generalize txtL l1 t1 = T1 at *
  generalize txtL l2 t2 = T2 at *
  generalize l1.map enP = E1 at *
  generalize l2.map enP = E2 at *
  generalize 35 :: b1 = B1 at *
  generalize 35 :: b2 = B2 at *
  have S0 : evS ⟨fnK rs glK K, glK⟩ (.set 1 false (.call 7 (.cons (.call 6 (.cons (.var 0) (.cons (.int 0) .nil))) (.cons (.int 20) .nil)))) [.val (.list N), .un, .un, .un, .un, .un, .un, .un, .un, .un, .un] = some (.nx [.val (.list N), .val D, .un, .un, .un, .un, .un, .un, .un, .un, .un]) := by
    simp only [EV0, EV1, List.nodup_nil, List.nodup_cons, List.not_mem_nil, List.mem_cons, or_false, Nat.sub_self, Nat.add_one_sub_one, Nat.zero_lt_succ, if_true, if_false, eq_self_iff_true, reduceIte, reduceCtorEq, Nat.zero_le, slv, not_false_eq_true, and_self, and_true, true_and, Bool.not_true, Bool.not_false, beq_self_eq_true, Nat.reduceAdd, Nat.reduceLT, Nat.reduceLeDiff, Nat.reduceSub, Nat.reduceEqDiff, Nat.reduceMul, Int.reduceAdd, Int.reduceLT, Int.reduceLE, Int.reduceNeg, Int.reduceEq, Int.reduceSub, decide_true, decide_false, decide_eq_true_eq, cond_true, cond_false, Int.reducePow, e0, h3, hdl]
  have S1 : evS ⟨fnK rs glK K, glK⟩ (.set 2 false (.cmp .eq (.bin .mod (.prim .int (.cons (.sub (.var 1) (.int 0)) .nil)) (.int 16)) (.int 5))) [.val (.list N), .val D, .un, .un, .un, .un, .un, .un, .un, .un, .un] = some (.nx [.val (.list N), .val D, .val (.bool long), .un, .un, .un, .un, .un, .un, .un, .un]) := by
    simp only [EV0, EV1, List.nodup_nil, List.nodup_cons, List.not_mem_nil, List.mem_cons, or_false, Nat.sub_self, Nat.add_one_sub_one, Nat.zero_lt_succ, if_true, if_false, eq_self_iff_true, reduceIte, reduceCtorEq, Nat.zero_le, slv, not_false_eq_true, and_self, and_true, true_and, Bool.not_true, Bool.not_false, beq_self_eq_true, Nat.reduceAdd, Nat.reduceLT, Nat.reduceLeDiff, Nat.reduceSub, Nat.reduceEqDiff, Nat.reduceMul, Int.reduceAdd, Int.reduceLT, Int.reduceLE, Int.reduceNeg, Int.reduceEq, Int.reduceSub, decide_true, decide_false, decide_eq_true_eq, cond_true, cond_false, Int.reducePow, s0, pI, m16, lg]
  have S2 : evS ⟨fnK rs glK K, glK⟩ (.set 3 false (.call 18 (.cons (.call 17 (.cons (.var 0) (.cons (.int 1) (.cons (.bin .mod (.prim .int (.cons (.sub (.var 1) (.int 1)) .nil)) (.int 31)) (.cons (.var 2) .nil))))) (.cons (.call 19 (.cons (.sub (.var 1) (.int 2)) (.cons (.call 14 (.cons (.var 1) (.cons (.int 5) .nil))) .nil))) .nil)))) [.val (.list N), .val D, .val (.bool long), .un, .un, .un, .un, .un, .un, .un, .un] = some (.nx [.val (.list N), .val D, .val (.bool long), .val O1, .un, .un, .un, .un, .un, .un, .un]) := by
    simp only [EV0, EV1, List.nodup_nil, List.nodup_cons, List.not_mem_nil, List.mem_cons, or_false, Nat.sub_self, Nat.add_one_sub_one, Nat.zero_lt_succ, if_true, if_false, eq_self_iff_true, reduceIte, reduceCtorEq, Nat.zero_le, slv, not_false_eq_true, and_self, and_true, true_and, Bool.not_true, Bool.not_false, beq_self_eq_true, Nat.reduceAdd, Nat.reduceLT, Nat.reduceLeDiff, Nat.reduceSub, Nat.reduceEqDiff, Nat.reduceMul, Int.reduceAdd, Int.reduceLT, Int.reduceLE, Int.reduceNeg, Int.reduceEq, Int.reduceSub, decide_true, decide_false, decide_eq_true_eq, cond_true, cond_false, Int.reducePow, p1, p2, p3, p4, p5, p6, pI, ma, f1]
  have S3 : evS ⟨fnK rs glK K, glK⟩ (.set 4 false (.call 18 (.cons (.call 17 (.cons (.var 0) (.cons (.int 5) (.cons (.bin .mod (.prim .int (.cons (.sub (.var 1) (.int 3)) .nil)) (.int 31)) (.cons (.var 2) .nil))))) (.cons (.call 19 (.cons (.sub (.var 1) (.int 4)) (.cons (.call 14 (.cons (.var 1) (.cons (.int 12) .nil))) .nil))) .nil)))) [.val (.list N), .val D, .val (.bool long), .val O1, .un, .un, .un, .un, .un, .un, .un] = some (.nx [.val (.list N), .val D, .val (.bool long), .val O1, .val O2, .un, .un, .un, .un, .un, .un]) := by
    simp only [EV0, EV1, List.nodup_nil, List.nodup_cons, List.not_mem_nil, List.mem_cons, or_false, Nat.sub_self, Nat.add_one_sub_one, Nat.zero_lt_succ, if_true, if_false, eq_self_iff_true, reduceIte, reduceCtorEq, Nat.zero_le, slv, not_false_eq_true, and_self, and_true, true_and, Bool.not_true, Bool.not_false, beq_self_eq_true, Nat.reduceAdd, Nat.reduceLT, Nat.reduceLeDiff, Nat.reduceSub, Nat.reduceEqDiff, Nat.reduceMul, Int.reduceAdd, Int.reduceLT, Int.reduceLE, Int.reduceNeg, Int.reduceEq, Int.reduceSub, decide_true, decide_false, decide_eq_true_eq, cond_true, cond_false, Int.reducePow, q1, q2, q3, q4, q5, q6, pI, mb, f2]
  have S4 : evS ⟨fnK rs glK K, glK⟩ (.set 5 false (.sub (.sub (.var 3) (.int 2)) (.int 0))) [.val (.list N), .val D, .val (.bool long), .val O1, .val O2, .un, .un, .un, .un, .un, .un] = some (.nx [.val (.list N), .val D, .val (.bool long), .val O1, .val O2, .val (.int (P1.1 : Int)), .un, .un, .un, .un, .un]) := by
    simp only [EV0, EV1, List.nodup_nil, List.nodup_cons, List.not_mem_nil, List.mem_cons, or_false, Nat.sub_self, Nat.add_one_sub_one, Nat.zero_lt_succ, if_true, if_false, eq_self_iff_true, reduceIte, reduceCtorEq, Nat.zero_le, slv, not_false_eq_true, and_self, and_true, true_and, Bool.not_true, Bool.not_false, beq_self_eq_true, Nat.reduceAdd, Nat.reduceLT, Nat.reduceLeDiff, Nat.reduceSub, Nat.reduceEqDiff, Nat.reduceMul, Int.reduceAdd, Int.reduceLT, Int.reduceLE, Int.reduceNeg, Int.reduceEq, Int.reduceSub, decide_true, decide_false, decide_eq_true_eq, cond_true, cond_false, Int.reducePow, o12, pl1.1, hU1]
  have S5 : evS ⟨fnK rs glK K, glK⟩ (.set 6 false (.bin .add (.sub (.var 3) (.int 1)) (.lst (.cons (.tup (.cons (.str "end") (.cons (.str "") (.cons (.sub (.sub (.var 3) (.int 2)) (.int 0)) (.cons (.sub (.sub (.var 3) (.int 2)) (.int 1)) .nil))))) .nil)))) [.val (.list N), .val D, .val (.bool long), .val O1, .val O2, .val (.int (P1.1 : Int)), .un, .un, .un, .un, .un] = some (.nx [.val (.list N), .val D, .val (.bool long), .val O1, .val O2, .val (.int (P1.1 : Int)), .val (.list X1), .un, .un, .un, .un]) := by
    simp only [EV0, EV1, List.nodup_nil, List.nodup_cons, List.not_mem_nil, List.mem_cons, or_false, Nat.sub_self, Nat.add_one_sub_one, Nat.zero_lt_succ, if_true, if_false, eq_self_iff_true, reduceIte, reduceCtorEq, Nat.zero_le, slv, not_false_eq_true, and_self, and_true, true_and, Bool.not_true, Bool.not_false, beq_self_eq_true, Nat.reduceAdd, Nat.reduceLT, Nat.reduceLeDiff, Nat.reduceSub, Nat.reduceEqDiff, Nat.reduceMul, Int.reduceAdd, Int.reduceLT, Int.reduceLE, Int.reduceNeg, Int.reduceEq, Int.reduceSub, decide_true, decide_false, decide_eq_true_eq, cond_true, cond_false, Int.reducePow, o11, o12, pl1.1, pl1.2, hU1, ad3]
  have S6 : evS ⟨fnK rs glK K, glK⟩ (.set 7 false (.bin .add (.sub (.var 4) (.int 1)) (.lst (.cons (.tup (.cons (.str "end") (.cons (.str "") (.cons (.sub (.sub (.var 4) (.int 2)) (.int 0)) (.cons (.sub (.sub (.var 4) (.int 2)) (.int 1)) .nil))))) .nil)))) [.val (.list N), .val D, .val (.bool long), .val O1, .val O2, .val (.int (P1.1 : Int)), .val (.list X1), .un, .un, .un, .un] = some (.nx [.val (.list N), .val D, .val (.bool long), .val O1, .val O2, .val (.int (P1.1 : Int)), .val (.list X1), .val (.list X2), .un, .un, .un]) := by
    simp only [EV0, EV1, List.nodup_nil, List.nodup_cons, List.not_mem_nil, List.mem_cons, or_false, Nat.sub_self, Nat.add_one_sub_one, Nat.zero_lt_succ, if_true, if_false, eq_self_iff_true, reduceIte, reduceCtorEq, Nat.zero_le, slv, not_false_eq_true, and_self, and_true, true_and, Bool.not_true, Bool.not_false, beq_self_eq_true, Nat.reduceAdd, Nat.reduceLT, Nat.reduceLeDiff, Nat.reduceSub, Nat.reduceEqDiff, Nat.reduceMul, Int.reduceAdd, Int.reduceLT, Int.reduceLE, Int.reduceNeg, Int.reduceEq, Int.reduceSub, decide_true, decide_false, decide_eq_true_eq, cond_true, cond_false, Int.reducePow, o21, o22, pl2.1, pl2.2, hU2, ad4]
  have cmp : evX ⟨fnK rs glK K, glK⟩ (.comp (.var 9) (.cons (.var 7) .nil) (.bl true) elJ [9]) [.val (.list N), .val D, .val (.bool long), .val O1, .val O2, .val (.int (P1.1 : Int)), .val (.list X1), .val (.list X2), .un, .un, .un] = some (.own none XS, [.val (.list N), .val D, .val (.bool long), .val O1, .val O2, .val (.int (P1.1 : Int)), .val (.list X1), .val (.list X2), .un, .un, .un]) := by
    rw [eX_comp]
    have it : evI ⟨fnK rs glK K, glK⟩ true (.cons (.var 7) .nil) [.val (.list N), .val D, .val (.bool long), .val O1, .val O2, .val (.int (P1.1 : Int)), .val (.list X1), .val (.list X2), .un, .un, .un] = some (X2, [.val (.list N), .val D, .val (.bool long), .val O1, .val O2, .val (.int (P1.1 : Int)), .val (.list X1), .val (.list X2), .un, .un, .un]) := rfl
    rw [it]
    dsimp only
    rw [show blkD [.val (.list N), .val D, .val (.bool long), .val O1, .val O2, .val (.int (P1.1 : Int)), .val (.list X1), .val (.list X2), .un, .un, .un] [9] = [.val (.list N), .val D, .val (.bool long), .val O1, .val O2, .val (.int (P1.1 : Int)), .val (.list X1), .val (.list X2), .un, .un, .un] from rfl, cm]
  have S7 : evS ⟨fnK rs glK K, glK⟩ (.set 8 false (.bin .add (.sub (.var 3) (.int 1)) (.comp (.var 9) (.cons (.var 7) .nil) (.bl true) (.tup (.cons (.sub (.var 9) (.int 0)) (.cons (.sub (.var 9) (.int 1)) (.cons (.bin .add (.sub (.var 9) (.int 2)) (.var 5)) (.cons (.sub (.var 9) (.int 3)) .nil))))) [9]))) [.val (.list N), .val D, .val (.bool long), .val O1, .val O2, .val (.int (P1.1 : Int)), .val (.list X1), .val (.list X2), .un, .un, .un] = some (.nx [.val (.list N), .val D, .val (.bool long), .val O1, .val O2, .val (.int (P1.1 : Int)), .val (.list X1), .val (.list X2), .val (.list (Y1 ++ XS)), .un, .un]) := by
    simp only [EV0, EV1, List.nodup_nil, List.nodup_cons, List.not_mem_nil, List.mem_cons, or_false, Nat.sub_self, Nat.add_one_sub_one, Nat.zero_lt_succ, if_true, if_false, eq_self_iff_true, reduceIte, reduceCtorEq, Nat.zero_le, slv, not_false_eq_true, and_self, and_true, true_and, Bool.not_true, Bool.not_false, beq_self_eq_true, Nat.reduceAdd, Nat.reduceLT, Nat.reduceLeDiff, Nat.reduceSub, Nat.reduceEqDiff, Nat.reduceMul, Int.reduceAdd, Int.reduceLT, Int.reduceLE, Int.reduceNeg, Int.reduceEq, Int.reduceSub, decide_true, decide_false, decide_eq_true_eq, cond_true, cond_false, Int.reducePow, o11, cmp, ad5]
  have S8 : evS ⟨fnK rs glK K, glK⟩ (.set 10 true (.call 5 (.cons (.sub (.var 3) (.int 0)) .nil))) [.val (.list N), .val D, .val (.bool long), .val O1, .val O2, .val (.int (P1.1 : Int)), .val (.list X1), .val (.list X2), .val (.list (Y1 ++ XS)), .un, .un] = some (.nx [.val (.list N), .val D, .val (.bool long), .val O1, .val O2, .val (.int (P1.1 : Int)), .val (.list X1), .val (.list X2), .val (.list (Y1 ++ XS)), .un, .own none X1]) := by
    simp only [EV0, EV1, List.nodup_nil, List.nodup_cons, List.not_mem_nil, List.mem_cons, or_false, Nat.sub_self, Nat.add_one_sub_one, Nat.zero_lt_succ, if_true, if_false, eq_self_iff_true, reduceIte, reduceCtorEq, Nat.zero_le, slv, not_false_eq_true, and_self, and_true, true_and, Bool.not_true, Bool.not_false, beq_self_eq_true, Nat.reduceAdd, Nat.reduceLT, Nat.reduceLeDiff, Nat.reduceSub, Nat.reduceEqDiff, Nat.reduceMul, Int.reduceAdd, Int.reduceLT, Int.reduceLE, Int.reduceNeg, Int.reduceEq, Int.reduceSub, decide_true, decide_false, decide_eq_true_eq, cond_true, cond_false, Int.reducePow, o10, L1]
  have S9 : evS ⟨fnK rs glK K, glK⟩ (.ifs (.or (.not (.call 22 (.cons (.lend 10) (.cons (.var 6) .nil)))) (.not (.call 20 (.cons (.call 5 (.cons (.sub (.var 4) (.int 0)) .nil)) (.cons (.var 7) .nil))))) (.cons (.ret (.bl false)) .nil) .nil) [.val (.list N), .val D, .val (.bool long), .val O1, .val O2, .val (.int (P1.1 : Int)), .val (.list X1), .val (.list X2), .val (.list (Y1 ++ XS)), .un, .own none X1] = some (.nx [.val (.list N), .val D, .val (.bool long), .val O1, .val O2, .val (.int (P1.1 : Int)), .val (.list X1), .val (.list X2), .val (.list (Y1 ++ XS)), .un, .own none X1]) := by
    simp only [EV0, EV1, List.nodup_nil, List.nodup_cons, List.not_mem_nil, List.mem_cons, or_false, Nat.sub_self, Nat.add_one_sub_one, Nat.zero_lt_succ, if_true, if_false, eq_self_iff_true, reduceIte, reduceCtorEq, Nat.zero_le, slv, not_false_eq_true, and_self, and_true, true_and, Bool.not_true, Bool.not_false, beq_self_eq_true, Nat.reduceAdd, Nat.reduceLT, Nat.reduceLeDiff, Nat.reduceSub, Nat.reduceEqDiff, Nat.reduceMul, Int.reduceAdd, Int.reduceLT, Int.reduceLE, Int.reduceNeg, Int.reduceEq, Int.reduceSub, decide_true, decide_false, decide_eq_true_eq, cond_true, cond_false, Int.reducePow, o20, L2', A1, A2]
  have S10 : evS ⟨fnK rs glK K, glK⟩ (.ex (.clr 10)) [.val (.list N), .val D, .val (.bool long), .val O1, .val O2, .val (.int (P1.1 : Int)), .val (.list X1), .val (.list X2), .val (.list (Y1 ++ XS)), .un, .own none X1] = some (.nx [.val (.list N), .val D, .val (.bool long), .val O1, .val O2, .val (.int (P1.1 : Int)), .val (.list X1), .val (.list X2), .val (.list (Y1 ++ XS)), .un, .own none []]) := by
    simp only [EV0, EV1, List.nodup_nil, List.nodup_cons, List.not_mem_nil, List.mem_cons, or_false, Nat.sub_self, Nat.add_one_sub_one, Nat.zero_lt_succ, if_true, if_false, eq_self_iff_true, reduceIte, reduceCtorEq, Nat.zero_le, slv, not_false_eq_true, and_self, and_true, true_and, Bool.not_true, Bool.not_false, beq_self_eq_true, Nat.reduceAdd, Nat.reduceLT, Nat.reduceLeDiff, Nat.reduceSub, Nat.reduceEqDiff, Nat.reduceMul, Int.reduceAdd, Int.reduceLT, Int.reduceLE, Int.reduceNeg, Int.reduceEq, Int.reduceSub, decide_true, decide_false, decide_eq_true_eq, cond_true, cond_false, Int.reducePow]
  have S11 : evS ⟨fnK rs glK K, glK⟩ (.ret (.and (.call 20 (.cons (.call 5 (.cons (.bin .add (.bin .add (.sub (.var 3) (.int 0)) (.str "\n")) (.sub (.var 4) (.int 0))) .nil)) (.cons (.var 8) .nil))) (.call 20 (.cons (.call 5 (.cons (.sub (.var 3) (.int 0)) .nil)) (.cons (.var 6) .nil))))) [.val (.list N), .val D, .val (.bool long), .val O1, .val O2, .val (.int (P1.1 : Int)), .val (.list X1), .val (.list X2), .val (.list (Y1 ++ XS)), .un, .own none []] = some (.rt (.val (.bool true)) [.val (.list N), .val D, .val (.bool long), .val O1, .val O2, .val (.int (P1.1 : Int)), .val (.list X1), .val (.list X2), .val (.list (Y1 ++ XS)), .un, .own none []]) := by
    simp only [EV0, EV1, List.nodup_nil, List.nodup_cons, List.not_mem_nil, List.mem_cons, or_false, Nat.sub_self, Nat.add_one_sub_one, Nat.zero_lt_succ, if_true, if_false, eq_self_iff_true, reduceIte, reduceCtorEq, Nat.zero_le, slv, not_false_eq_true, and_self, and_true, true_and, Bool.not_true, Bool.not_false, beq_self_eq_true, Nat.reduceAdd, Nat.reduceLT, Nat.reduceLeDiff, Nat.reduceSub, Nat.reduceEqDiff, Nat.reduceMul, Int.reduceAdd, Int.reduceLT, Int.reduceLE, Int.reduceNeg, Int.reduceEq, Int.reduceSub, decide_true, decide_false, decide_eq_true_eq, cond_true, cond_false, Int.reducePow, s_nl, o10, o20, ad1, ad2, LJ, L1, A1', AJ]
  have all : evS ⟨fnK rs glK K, glK⟩ ir_law [.val (.list N), .un, .un, .un, .un, .un, .un, .un, .un, .un, .un] = some (.rt (.val (.bool true)) [.val (.list N), .val D, .val (.bool long), .val O1, .val O2, .val (.int (P1.1 : Int)), .val (.list X1), .val (.list X2), .val (.list (Y1 ++ XS)), .un, .own none []]) := by
    rw [eS_cons, S0]
    dsimp only
    rw [eS_cons, S1]
    dsimp only
    rw [eS_cons, S2]
    dsimp only
    rw [eS_cons, S3]
    dsimp only
    rw [eS_cons, S4]
    dsimp only
    rw [eS_cons, S5]
    dsimp only
    rw [eS_cons, S6]
    dsimp only
    rw [eS_cons, S7]
    dsimp only
    rw [eS_cons, S8]
    dsimp only
    rw [eS_cons, S9]
    dsimp only
    rw [eS_cons, S10]
    dsimp only
    rw [eS_cons, S11]
  exact ⟨_, run_rt rfl rfl all rfl⟩
theorem win (K : PySem.W.Frag) : Wins K (spF K 1 (fnK rs glK 40 21)) := wins_of fun ns _ => win0 ns
end Lw

set_option Elab.async false
set_option linter.all false
set_option maxRecDepth 100000
set_option maxHeartbeats 8000000
namespace Lw
open PySem PySem.Spec PyProof.Rows L2 Dv
section
variable {P : Program} {w : World} {K : PySem.W.Frag} {h : Heap} {mg : Str → Option Value} {fa : Addr}
theorem all_mk (X : K.In h) (G : h.Ns mainGlobals mg) (hfa : mg "law" = some (.ref fa))
    {f0 : Addr} {od0 an0 : Option Addr} {sl0 : Array (Option Value)} {oc0 dc0 pm0 cd0 ct0 : Value} {w0 : Addr}
    {f1 : Addr} {od1 an1 : Option Addr} {sl1 : Array (Option Value)} {oc1 kV1 dc1 pm1 cd1 ct1 : Value}
    {f2 : Addr} {od2 an2 : Option Addr} {sl2 : Array (Option Value)} {oc2 kV2 dc2 pm2 cd2 ct2 : Value}
    {f3 : Addr} {od3 an3 : Option Addr} {sl3 : Array (Option Value)} {oc3 kV3 dc3 pm3 cd3 ct3 : Value}
    {f4 : Addr} {od4 an4 : Option Addr} {sl4 : Array (Option Value)} {oc4 kV4 dc4 pm4 cd4 ct4 : Value}
    {f5 : Addr} {od5 an5 : Option Addr} {sl5 : Array (Option Value)} {oc5 kV5 dc5 pm5 cd5 ct5 : Value}
    {f6 : Addr} {od6 an6 : Option Addr} {sl6 : Array (Option Value)} {oc6 kV6 dc6 pm6 cd6 ct6 : Value}
    {f7 : Addr} {od7 an7 : Option Addr} {sl7 : Array (Option Value)} {oc7 kV7 dc7 pm7 cd7 ct7 : Value}
    {f8 : Addr} {od8 an8 : Option Addr} {sl8 : Array (Option Value)} {oc8 kV8 dc8 pm8 cd8 ct8 : Value}
    {f9 : Addr} {od9 an9 : Option Addr} {sl9 : Array (Option Value)} {oc9 kV9 dc9 pm9 cd9 ct9 : Value}
    {f10 : Addr} {od10 an10 : Option Addr} {sl10 : Array (Option Value)} {oc10 kV10 dc10 pm10 cd10 ct10 : Value}
    {f11 : Addr} {od11 an11 : Option Addr} {sl11 : Array (Option Value)} {oc11 kV11 dc11 pm11 cd11 ct11 : Value}
    {f12 : Addr} {od12 an12 : Option Addr} {sl12 : Array (Option Value)} {oc12 kV12 dc12 pm12 cd12 ct12 : Value}
    {f13 : Addr} {od13 an13 : Option Addr} {sl13 : Array (Option Value)} {oc13 kV13 dc13 pm13 cd13 ct13 : Value}
    {f14 : Addr} {od14 an14 : Option Addr} {sl14 : Array (Option Value)} {oc14 kV14 dc14 pm14 cd14 ct14 : Value}
    {f15 : Addr} {od15 an15 : Option Addr} {sl15 : Array (Option Value)} {oc15 kV15 dc15 pm15 cd15 ct15 : Value}
    {f16 : Addr} {od16 an16 : Option Addr} {sl16 : Array (Option Value)} {oc16 kV16 dc16 pm16 cd16 ct16 : Value}
    {f17 : Addr} {od17 an17 : Option Addr} {sl17 : Array (Option Value)} {oc17 kV17 dc17 pm17 cd17 ct17 : Value}
    {f18 : Addr} {od18 an18 : Option Addr} {sl18 : Array (Option Value)} {oc18 kV18 dc18 pm18 cd18 ct18 : Value}
    {f19 : Addr} {od19 an19 : Option Addr} {sl19 : Array (Option Value)} {oc19 kV19 dc19 pm19 cd19 ct19 : Value}
    {f20 : Addr} {od20 an20 : Option Addr} {sl20 : Array (Option Value)} {oc20 kV20 dc20 pm20 cd20 ct20 : Value}
    {f21 : Addr} {od21 an21 : Option Addr} {sl21 : Array (Option Value)} {oc21 kV21 dc21 pm21 cd21 ct21 : Value}
    {gt0 : PySem.Tok}
    {gt1 : PySem.Tok}
    {g2 : Addr} {go2 : Option Addr} {gi2 : Array Value} {gn2 : Nat} {gs2 : Array (Option Value)}
    {g3 : Addr} {go3 : Option Addr} {gi3 : Array Value} {gn3 : Nat} {gs3 : Array (Option Value)}
    {gt4 : PySem.Tok}
    {gt5 : PySem.Tok}
    (a0 : PySem.W.nsIn K mainGlobals "number_of" = some (some (.ref f0))) (l0 : K.lookup f0 = some ⟨oc0, od0, .func (PySem.W.fnOf "number_of" "number_of" (defArgs (topS 3)) (defBody (topS 3)) (defScope (topS 3)) .none (.ref w0) dc0 pm0 an0 cd0 ct0), sl0⟩) (c0 : PySem.W.codeIn K cd0 "number_of" = true) (k0 : PySem.W.keepIn K (.ref f0) = true)
    (w0_0 : PySem.W.nsIn K w0 "signed" = some (some (.bool false)))
    (a1 : PySem.W.nsIn K mainGlobals "run_at" = some (some (.ref f1))) (l1 : K.lookup f1 = some ⟨oc1, od1, .func (PySem.W.fnOf "run_at" "run_at" (defArgs (topS 9)) (defBody (topS 9)) (defScope (topS 9)) .none kV1 dc1 pm1 an1 cd1 ct1), sl1⟩) (c1 : PySem.W.codeIn K cd1 "run_at" = true) (k1 : PySem.W.keepIn K (.ref f1) = true)
    (a2 : PySem.W.nsIn K mainGlobals "kind_of" = some (some (.ref f2))) (l2 : K.lookup f2 = some ⟨oc2, od2, .func (PySem.W.fnOf "kind_of" "kind_of" (defArgs (topS 10)) (defBody (topS 10)) (defScope (topS 10)) .none kV2 dc2 pm2 an2 cd2 ct2), sl2⟩) (c2 : PySem.W.codeIn K cd2 "kind_of" = true) (k2 : PySem.W.keepIn K (.ref f2) = true)
    (a3 : PySem.W.nsIn K mainGlobals "token_at" = some (some (.ref f3))) (l3 : K.lookup f3 = some ⟨oc3, od3, .func (PySem.W.fnOf "token_at" "token_at" (defArgs (topS 11)) (defBody (topS 11)) (defScope (topS 11)) .none kV3 dc3 pm3 an3 cd3 ct3), sl3⟩) (c3 : PySem.W.codeIn K cd3 "token_at" = true) (k3 : PySem.W.keepIn K (.ref f3) = true)
    (a4 : PySem.W.nsIn K mainGlobals "row_end" = some (some (.ref f4))) (l4 : K.lookup f4 = some ⟨oc4, od4, .func (PySem.W.fnOf "row_end" "row_end" (defArgs (topS 12)) (defBody (topS 12)) (defScope (topS 12)) .none kV4 dc4 pm4 an4 cd4 ct4), sl4⟩) (c4 : PySem.W.codeIn K cd4 "row_end" = true) (k4 : PySem.W.keepIn K (.ref f4) = true)
    (a5 : PySem.W.nsIn K mainGlobals "token_list" = some (some (.ref f5))) (l5 : K.lookup f5 = some ⟨oc5, od5, .func (PySem.W.fnOf "token_list" "token_list" (defArgs (topS 13)) (defBody (topS 13)) (defScope (topS 13)) .none kV5 dc5 pm5 an5 cd5 ct5), sl5⟩) (c5 : PySem.W.codeIn K cd5 "token_list" = true) (k5 : PySem.W.keepIn K (.ref f5) = true)
    (a6 : PySem.W.nsIn K mainGlobals "_law_cell" = some (some (.ref f6))) (l6 : K.lookup f6 = some ⟨oc6, od6, .func (PySem.W.fnOf "_law_cell" "_law_cell" (defArgs (topS 15)) (defBody (topS 15)) (defScope (topS 15)) .none kV6 dc6 pm6 an6 cd6 ct6), sl6⟩) (c6 : PySem.W.codeIn K cd6 "_law_cell" = true) (k6 : PySem.W.keepIn K (.ref f6) = true)
    (a7 : PySem.W.nsIn K mainGlobals "_law_draws" = some (some (.ref f7))) (l7 : K.lookup f7 = some ⟨oc7, od7, .func (PySem.W.fnOf "_law_draws" "_law_draws" (defArgs (topS 16)) (defBody (topS 16)) (defScope (topS 16)) .none kV7 dc7 pm7 an7 cd7 ct7), sl7⟩) (c7 : PySem.W.codeIn K cd7 "_law_draws" = true) (k7 : PySem.W.keepIn K (.ref f7) = true)
    (a8 : PySem.W.nsIn K mainGlobals "_law_is_integer" = some (some (.ref f8))) (l8 : K.lookup f8 = some ⟨oc8, od8, .func (PySem.W.fnOf "_law_is_integer" "_law_is_integer" (defArgs (topS 17)) (defBody (topS 17)) (defScope (topS 17)) .none kV8 dc8 pm8 an8 cd8 ct8), sl8⟩) (c8 : PySem.W.codeIn K cd8 "_law_is_integer" = true) (k8 : PySem.W.keepIn K (.ref f8) = true)
    (a9 : PySem.W.nsIn K mainGlobals "_law_keywords" = some (some (.ref f9))) (l9 : K.lookup f9 = some ⟨oc9, od9, .func (PySem.W.fnOf "_law_keywords" "_law_keywords" (defArgs (topS 18)) (defBody (topS 18)) (defScope (topS 18)) .none kV9 dc9 pm9 an9 cd9 ct9), sl9⟩) (c9 : PySem.W.codeIn K cd9 "_law_keywords" = true) (k9 : PySem.W.keepIn K (.ref f9) = true)
    (a10 : PySem.W.nsIn K mainGlobals "_law_run" = some (some (.ref f10))) (l10 : K.lookup f10 = some ⟨oc10, od10, .func (PySem.W.fnOf "_law_run" "_law_run" (defArgs (topS 19)) (defBody (topS 19)) (defScope (topS 19)) .none kV10 dc10 pm10 an10 cd10 ct10), sl10⟩) (c10 : PySem.W.codeIn K cd10 "_law_run" = true) (k10 : PySem.W.keepIn K (.ref f10) = true)
    (a11 : PySem.W.nsIn K mainGlobals "_law_number" = some (some (.ref f11))) (l11 : K.lookup f11 = some ⟨oc11, od11, .func (PySem.W.fnOf "_law_number" "_law_number" (defArgs (topS 20)) (defBody (topS 20)) (defScope (topS 20)) .none kV11 dc11 pm11 an11 cd11 ct11), sl11⟩) (c11 : PySem.W.codeIn K cd11 "_law_number" = true) (k11 : PySem.W.keepIn K (.ref f11) = true)
    (a12 : PySem.W.nsIn K mainGlobals "_law_word" = some (some (.ref f12))) (l12 : K.lookup f12 = some ⟨oc12, od12, .func (PySem.W.fnOf "_law_word" "_law_word" (defArgs (topS 21)) (defBody (topS 21)) (defScope (topS 21)) .none kV12 dc12 pm12 an12 cd12 ct12), sl12⟩) (c12 : PySem.W.codeIn K cd12 "_law_word" = true) (k12 : PySem.W.keepIn K (.ref f12) = true)
    (a13 : PySem.W.nsIn K mainGlobals "_law_kind" = some (some (.ref f13))) (l13 : K.lookup f13 = some ⟨oc13, od13, .func (PySem.W.fnOf "_law_kind" "_law_kind" (defArgs (topS 22)) (defBody (topS 22)) (defScope (topS 22)) .none kV13 dc13 pm13 an13 cd13 ct13), sl13⟩) (c13 : PySem.W.codeIn K cd13 "_law_kind" = true) (k13 : PySem.W.keepIn K (.ref f13) = true)
    (a14 : PySem.W.nsIn K mainGlobals "_law_remark" = some (some (.ref f14))) (l14 : K.lookup f14 = some ⟨oc14, od14, .func (PySem.W.fnOf "_law_remark" "_law_remark" (defArgs (topS 23)) (defBody (topS 23)) (defScope (topS 23)) .none kV14 dc14 pm14 an14 cd14 ct14), sl14⟩) (c14 : PySem.W.codeIn K cd14 "_law_remark" = true) (k14 : PySem.W.keepIn K (.ref f14) = true)
    (a15 : PySem.W.nsIn K mainGlobals "_law_touch" = some (some (.ref f15))) (l15 : K.lookup f15 = some ⟨oc15, od15, .func (PySem.W.fnOf "_law_touch" "_law_touch" (defArgs (topS 24)) (defBody (topS 24)) (defScope (topS 24)) .none kV15 dc15 pm15 an15 cd15 ct15), sl15⟩) (c15 : PySem.W.codeIn K cd15 "_law_touch" = true) (k15 : PySem.W.keepIn K (.ref f15) = true)
    (a16 : PySem.W.nsIn K mainGlobals "_law_moved" = some (some (.ref f16))) (l16 : K.lookup f16 = some ⟨oc16, od16, .func (PySem.W.fnOf "_law_moved" "_law_moved" (defArgs (topS 25)) (defBody (topS 25)) (defScope (topS 25)) .none kV16 dc16 pm16 an16 cd16 ct16), sl16⟩) (c16 : PySem.W.codeIn K cd16 "_law_moved" = true) (k16 : PySem.W.keepIn K (.ref f16) = true)
    (a17 : PySem.W.nsIn K mainGlobals "_law_pieces" = some (some (.ref f17))) (l17 : K.lookup f17 = some ⟨oc17, od17, .func (PySem.W.fnOf "_law_pieces" "_law_pieces" (defArgs (topS 26)) (defBody (topS 26)) (defScope (topS 26)) .none kV17 dc17 pm17 an17 cd17 ct17), sl17⟩) (c17 : PySem.W.codeIn K cd17 "_law_pieces" = true) (k17 : PySem.W.keepIn K (.ref f17) = true)
    (a18 : PySem.W.nsIn K mainGlobals "_law_text" = some (some (.ref f18))) (l18 : K.lookup f18 = some ⟨oc18, od18, .func (PySem.W.fnOf "_law_text" "_law_text" (defArgs (topS 27)) (defBody (topS 27)) (defScope (topS 27)) .none kV18 dc18 pm18 an18 cd18 ct18), sl18⟩) (c18 : PySem.W.codeIn K cd18 "_law_text" = true) (k18 : PySem.W.keepIn K (.ref f18) = true)
    (a19 : PySem.W.nsIn K mainGlobals "_law_tail" = some (some (.ref f19))) (l19 : K.lookup f19 = some ⟨oc19, od19, .func (PySem.W.fnOf "_law_tail" "_law_tail" (defArgs (topS 28)) (defBody (topS 28)) (defScope (topS 28)) .none kV19 dc19 pm19 an19 cd19 ct19), sl19⟩) (c19 : PySem.W.codeIn K cd19 "_law_tail" = true) (k19 : PySem.W.keepIn K (.ref f19) = true)
    (a20 : PySem.W.nsIn K mainGlobals "_law_same" = some (some (.ref f20))) (l20 : K.lookup f20 = some ⟨oc20, od20, .func (PySem.W.fnOf "_law_same" "_law_same" (defArgs (topS 29)) (defBody (topS 29)) (defScope (topS 29)) .none kV20 dc20 pm20 an20 cd20 ct20), sl20⟩) (c20 : PySem.W.codeIn K cd20 "_law_same" = true) (k20 : PySem.W.keepIn K (.ref f20) = true)
    (a21 : PySem.W.nsIn K mainGlobals "law" = some (some (.ref f21))) (l21 : K.lookup f21 = some ⟨oc21, od21, .func (PySem.W.fnOf "law" "law" (defArgs (topS 30)) (defBody (topS 30)) (defScope (topS 30)) .none kV21 dc21 pm21 an21 cd21 ct21), sl21⟩) (c21 : PySem.W.codeIn K cd21 "law" = true) (k21 : PySem.W.keepIn K (.ref f21) = true)
    (z0 : PySem.W.nsIn K mainGlobals "len" = some none)
    (z1 : PySem.W.nsIn K mainGlobals "int" = some none)
    (z2 : PySem.W.nsIn K mainGlobals "str" = some none)
    (z3 : PySem.W.nsIn K mainGlobals "abs" = some none)
    (z4 : PySem.W.nsIn K mainGlobals "tuple" = some none)
    (z5 : PySem.W.nsIn K mainGlobals "list" = some none)
    (z6 : PySem.W.nsIn K mainGlobals "max" = some none)
    (z7 : PySem.W.nsIn K mainGlobals "min" = some none)
    (z8 : PySem.W.nsIn K mainGlobals "sum" = some none)
    (z9 : PySem.W.nsIn K mainGlobals "range" = some none)
    (z10 : PySem.W.nsIn K mainGlobals "isinstance" = some none)
    (z11 : PySem.W.nsIn K mainGlobals "bool" = some none)
    (y0 : PySem.W.nsIn K mainGlobals "SMALL" = some (some (.str "abcdefghijklmnopqrstuvwxyz" gt0)))
    (y1 : PySem.W.nsIn K mainGlobals "DIGITS" = some (some (.str "0123456789" gt1)))
    (y2 : PySem.W.nsIn K mainGlobals "KEYWORDS" = some (some (.ref g2))) (x2 : K.lookup g2 = some ⟨.type "tuple", go2, .seq gi2 gn2, gs2⟩) (m2 : decide (gi2.size ≤ 1000) = true) (s2 : strsAre gi2.toList [("cell" : Str), ("line" : Str), ("store" : Str), ("gate" : Str), ("wheel" : Str), ("mark" : Str), ("class" : Str), ("within" : Str), ("var" : Str), ("deed" : Str), ("life" : Str), ("start" : Str), ("at" : Str), ("asleep" : Str), ("open" : Str), ("shut" : Str), ("set" : Str), ("tell" : Str), ("if" : Str), ("else" : Str), ("while" : Str), ("do" : Str), ("inner" : Str), ("hold" : Str), ("sleep" : Str), ("wake" : Str), ("after" : Str), ("stop" : Str), ("seize" : Str), ("of" : Str), ("free" : Str), ("wait" : Str), ("put" : Str), ("into" : Str), ("take" : Str), ("from" : Str), ("make" : Str), ("leave" : Str), ("or" : Str), ("and" : Str), ("not" : Str), ("mod" : Str), ("none" : Str), ("me" : Str), ("now" : Str), ("length" : Str), ("first" : Str), ("spare" : Str), ("waiting" : Str), ("isopen" : Str), ("stand" : Str)] = true)
    (y3 : PySem.W.nsIn K mainGlobals "LONG_SIGNS" = some (some (.ref g3))) (x3 : K.lookup g3 = some ⟨.type "tuple", go3, .seq gi3 gn3, gs3⟩) (m3 : decide (gi3.size ≤ 1000) = true) (s3 : strsAre gi3.toList [("==" : Str), ("!=" : Str), ("<=" : Str), (">=" : Str)] = true)
    (y4 : PySem.W.nsIn K mainGlobals "SHORT_SIGNS" = some (some (.str "{}(),;.+-*/=<>" gt4)))
    (y5 : PySem.W.nsIn K mainGlobals "MOST_CHARACTERS" = some (some (.int 12 gt5))) :
    ∃ fd : FuncData, (∀ (s : Shared) (u : Value), BindsTo s fd ⟨[u], []⟩ [("script", u)]) ∧ ∀ base : Heap, K.In base → base.Ns mainGlobals mg → FnG P w K mg base 40 fa fd ["script"] (spF K 1 (fnK rs glK 40 21)) := by
  have e := hfa.symm.trans (PySem.W.mg_of X G a21)
  have e' : f21 = fa := by cases e; rfl
  subst e'
  have D0 : DefAt K mg r_number_of f0 _ := ⟨fun_mk (st := topS 3) l0 c0 k0, PySem.W.mg_of X G a0, k0, [.bool false], [.bl false], .cons rfl .nil, (fun F => .cons (.bl _) .nil), binds_kw (n := 1) (names := ["signed"]) rfl (fun q hq => by simp at hq; subst hq; exact w0_0) fun us hl => match us, hl with | [_], _ => ⟨_, _, _, _, _, _, rfl, rfl, rfl⟩⟩
  have D1 : DefAt K mg r_run_at f1 _ := ⟨fun_mk (st := topS 9) l1 c1 k1, PySem.W.mg_of X G a1, k1, [], [], .nil, (fun F => .nil), (fun_mk (st := topS 9) l1 c1 k1).binds (ps := ["text", "at"]) fun _ _ _ _ _ _ us hl => match us, hl with | [_, _], _ => rfl⟩
  have D2 : DefAt K mg r_kind_of f2 _ := ⟨fun_mk (st := topS 10) l2 c2 k2, PySem.W.mg_of X G a2, k2, [], [], .nil, (fun F => .nil), (fun_mk (st := topS 10) l2 c2 k2).binds (ps := ["run"]) fun _ _ _ _ _ _ us hl => match us, hl with | [_], _ => rfl⟩
  have D3 : DefAt K mg r_token_at f3 _ := ⟨fun_mk (st := topS 11) l3 c3 k3, PySem.W.mg_of X G a3, k3, [], [], .nil, (fun F => .nil), (fun_mk (st := topS 11) l3 c3 k3).binds (ps := ["text", "at"]) fun _ _ _ _ _ _ us hl => match us, hl with | [_, _], _ => rfl⟩
  have D4 : DefAt K mg r_row_end f4 _ := ⟨fun_mk (st := topS 12) l4 c4 k4, PySem.W.mg_of X G a4, k4, [], [], .nil, (fun F => .nil), (fun_mk (st := topS 12) l4 c4 k4).binds (ps := ["text", "at"]) fun _ _ _ _ _ _ us hl => match us, hl with | [_, _], _ => rfl⟩
  have D5 : DefAt K mg r_token_list f5 _ := ⟨fun_mk (st := topS 13) l5 c5 k5, PySem.W.mg_of X G a5, k5, [], [], .nil, (fun F => .nil), (fun_mk (st := topS 13) l5 c5 k5).binds (ps := ["text"]) fun _ _ _ _ _ _ us hl => match us, hl with | [_], _ => rfl⟩
  have D6 : DefAt K mg r__law_cell f6 _ := ⟨fun_mk (st := topS 15) l6 c6 k6, PySem.W.mg_of X G a6, k6, [], [], .nil, (fun F => .nil), (fun_mk (st := topS 15) l6 c6 k6).binds (ps := ["script", "k"]) fun _ _ _ _ _ _ us hl => match us, hl with | [_, _], _ => rfl⟩
  have D7 : DefAt K mg r__law_draws f7 _ := ⟨fun_mk (st := topS 16) l7 c7 k7, PySem.W.mg_of X G a7, k7, [], [], .nil, (fun F => .nil), (fun_mk (st := topS 16) l7 c7 k7).binds (ps := ["cell", "many"]) fun _ _ _ _ _ _ us hl => match us, hl with | [_, _], _ => rfl⟩
  have D8 : DefAt K mg r__law_is_integer f8 _ := ⟨fun_mk (st := topS 17) l8 c8 k8, PySem.W.mg_of X G a8, k8, [], [], .nil, (fun F => .nil), (fun_mk (st := topS 17) l8 c8 k8).binds (ps := ["value"]) fun _ _ _ _ _ _ us hl => match us, hl with | [_], _ => rfl⟩
  have D9 : DefAt K mg r__law_keywords f9 _ := ⟨fun_mk (st := topS 18) l9 c9 k9, PySem.W.mg_of X G a9, k9, [], [], .nil, (fun F => .nil), (fun_mk (st := topS 18) l9 c9 k9).binds (ps := []) fun _ _ _ _ _ _ us hl => match us, hl with | [], _ => rfl⟩
  have D10 : DefAt K mg r__law_run f10 _ := ⟨fun_mk (st := topS 19) l10 c10 k10, PySem.W.mg_of X G a10, k10, [], [], .nil, (fun F => .nil), (fun_mk (st := topS 19) l10 c10 k10).binds (ps := ["letters", "at", "many"]) fun _ _ _ _ _ _ us hl => match us, hl with | [_, _, _], _ => rfl⟩
  have D11 : DefAt K mg r__law_number f11 _ := ⟨fun_mk (st := topS 20) l11 c11 k11, PySem.W.mg_of X G a11, k11, [], [], .nil, (fun F => .nil), (fun_mk (st := topS 20) l11 c11 k11).binds (ps := ["draws", "at"]) fun _ _ _ _ _ _ us hl => match us, hl with | [_, _], _ => rfl⟩
  have D12 : DefAt K mg r__law_word f12 _ := ⟨fun_mk (st := topS 21) l12 c12 k12, PySem.W.mg_of X G a12, k12, [], [], .nil, (fun F => .nil), (fun_mk (st := topS 21) l12 c12 k12).binds (ps := ["draws", "at", "letters", "begin"]) fun _ _ _ _ _ _ us hl => match us, hl with | [_, _, _, _], _ => rfl⟩
  have D13 : DefAt K mg r__law_kind f13 _ := ⟨fun_mk (st := topS 22) l13 c13 k13, PySem.W.mg_of X G a13, k13, [], [], .nil, (fun F => .nil), (fun_mk (st := topS 22) l13 c13 k13).binds (ps := ["word"]) fun _ _ _ _ _ _ us hl => match us, hl with | [_], _ => rfl⟩
  have D14 : DefAt K mg r__law_remark f14 _ := ⟨fun_mk (st := topS 23) l14 c14 k14, PySem.W.mg_of X G a14, k14, [], [], .nil, (fun F => .nil), (fun_mk (st := topS 23) l14 c14 k14).binds (ps := ["letters", "at"]) fun _ _ _ _ _ _ us hl => match us, hl with | [_, _], _ => rfl⟩
  have D15 : DefAt K mg r__law_touch f15 _ := ⟨fun_mk (st := topS 24) l15 c15 k15, PySem.W.mg_of X G a15, k15, [], [], .nil, (fun F => .nil), (fun_mk (st := topS 24) l15 c15 k15).binds (ps := ["before", "word"]) fun _ _ _ _ _ _ us hl => match us, hl with | [_, _], _ => rfl⟩
  have D16 : DefAt K mg r__law_moved f16 _ := ⟨fun_mk (st := topS 25) l16 c16 k16, PySem.W.mg_of X G a16, k16, [], [], .nil, (fun F => .nil), (fun_mk (st := topS 25) l16 c16 k16).binds (ps := ["place", "text"]) fun _ _ _ _ _ _ us hl => match us, hl with | [_, _], _ => rfl⟩
  have D17 : DefAt K mg r__law_pieces f17 _ := ⟨fun_mk (st := topS 26) l17 c17 k17, PySem.W.mg_of X G a17, k17, [], [], .nil, (fun F => .nil), (fun_mk (st := topS 26) l17 c17 k17).binds (ps := ["script", "at", "many", "long"]) fun _ _ _ _ _ _ us hl => match us, hl with | [_, _, _, _], _ => rfl⟩
  have D18 : DefAt K mg r__law_text f18 _ := ⟨fun_mk (st := topS 27) l18 c18 k18, PySem.W.mg_of X G a18, k18, [], [], .nil, (fun F => .nil), (fun_mk (st := topS 27) l18 c18 k18).binds (ps := ["pieces", "tail"]) fun _ _ _ _ _ _ us hl => match us, hl with | [_, _], _ => rfl⟩
  have D19 : DefAt K mg r__law_tail f19 _ := ⟨fun_mk (st := topS 28) l19 c19 k19, PySem.W.mg_of X G a19, k19, [], [], .nil, (fun F => .nil), (fun_mk (st := topS 28) l19 c19 k19).binds (ps := ["draw", "remark"]) fun _ _ _ _ _ _ us hl => match us, hl with | [_, _], _ => rfl⟩
  have D20 : DefAt K mg r__law_same f20 _ := ⟨fun_mk (st := topS 29) l20 c20 k20, PySem.W.mg_of X G a20, k20, [], [], .nil, (fun F => .nil), (fun_mk (st := topS 29) l20 c20 k20).binds (ps := ["actual", "due"]) fun _ _ _ _ _ _ us hl => match us, hl with | [_, _], _ => rfl⟩
  have D21 : DefAt K mg r_law f21 _ := ⟨fun_mk (st := topS 30) l21 c21 k21, PySem.W.mg_of X G a21, k21, [], [], .nil, (fun F => .nil), (fun_mk (st := topS 30) l21 c21 k21).binds (ps := ["script"]) fun _ _ _ _ _ _ us hl => match us, hl with | [_], _ => rfl⟩
  have D22 : DefAt K mg r__law_same_lv f20 _ := ⟨fun_mk (st := topS 29) l20 c20 k20, PySem.W.mg_of X G a20, k20, [], [], .nil, (fun F => .nil), (fun_mk (st := topS 29) l20 c20 k20).binds (ps := ["actual", "due"]) fun _ _ _ _ _ _ us hl => match us, hl with | [_, _], _ => rfl⟩
  have hs : ∀ (f : Nat) (r : DefR), rs[f]? = some r → DefOk rs gls blt r ∧ ∃ fa fd, DefAt K mg r fa fd := by
    intro f r e
    match f, e with
    | 0, e => cases e; exact ⟨ok_number_of, _, _, D0⟩
    | 1, e => cases e; exact ⟨ok_run_at, _, _, D1⟩
    | 2, e => cases e; exact ⟨ok_kind_of, _, _, D2⟩
    | 3, e => cases e; exact ⟨ok_token_at, _, _, D3⟩
    | 4, e => cases e; exact ⟨ok_row_end, _, _, D4⟩
    | 5, e => cases e; exact ⟨ok_token_list, _, _, D5⟩
    | 6, e => cases e; exact ⟨ok__law_cell, _, _, D6⟩
    | 7, e => cases e; exact ⟨ok__law_draws, _, _, D7⟩
    | 8, e => cases e; exact ⟨ok__law_is_integer, _, _, D8⟩
    | 9, e => cases e; exact ⟨ok__law_keywords, _, _, D9⟩
    | 10, e => cases e; exact ⟨ok__law_run, _, _, D10⟩
    | 11, e => cases e; exact ⟨ok__law_number, _, _, D11⟩
    | 12, e => cases e; exact ⟨ok__law_word, _, _, D12⟩
    | 13, e => cases e; exact ⟨ok__law_kind, _, _, D13⟩
    | 14, e => cases e; exact ⟨ok__law_remark, _, _, D14⟩
    | 15, e => cases e; exact ⟨ok__law_touch, _, _, D15⟩
    | 16, e => cases e; exact ⟨ok__law_moved, _, _, D16⟩
    | 17, e => cases e; exact ⟨ok__law_pieces, _, _, D17⟩
    | 18, e => cases e; exact ⟨ok__law_text, _, _, D18⟩
    | 19, e => cases e; exact ⟨ok__law_tail, _, _, D19⟩
    | 20, e => cases e; exact ⟨ok__law_same, _, _, D20⟩
    | 21, e => cases e; exact ⟨ok_law, _, _, D21⟩
    | 22, e => cases e; exact ⟨ok__law_same_lv, _, _, D22⟩
    | f + 23, e => cases e
  have hb : ∀ x ∈ blt, mg x = none := by
    intro x hx
    unfold blt at hx
    simp only [List.mem_cons, List.not_mem_nil, or_false] at hx
    rcases hx with rfl | rfl | rfl | rfl | rfl | rfl | rfl | rfl | rfl | rfl | rfl | rfl
    · exact PySem.W.mg_none_of X G z0
    · exact PySem.W.mg_none_of X G z1
    · exact PySem.W.mg_none_of X G z2
    · exact PySem.W.mg_none_of X G z3
    · exact PySem.W.mg_none_of X G z4
    · exact PySem.W.mg_none_of X G z5
    · exact PySem.W.mg_none_of X G z6
    · exact PySem.W.mg_none_of X G z7
    · exact PySem.W.mg_none_of X G z8
    · exact PySem.W.mg_none_of X G z9
    · exact PySem.W.mg_none_of X G z10
    · exact PySem.W.mg_none_of X G z11
  have hg : ∀ x g, (x, g) ∈ gls → ∃ v u d, mg x = some u ∧ RelV v u ∧ glK g = some d ∧ ∀ F, Rp K F v d := by
    intro x g hx
    unfold gls at hx
    simp only [List.mem_cons, List.not_mem_nil, or_false, Prod.mk.injEq] at hx
    rcases hx with ⟨rfl, rfl⟩ | ⟨rfl, rfl⟩ | ⟨rfl, rfl⟩ | ⟨rfl, rfl⟩ | ⟨rfl, rfl⟩ | ⟨rfl, rfl⟩
    · exact ⟨.str _, _, _, PySem.W.mg_of X G y0, ⟨_, rfl⟩, rfl, fun F => .str _⟩
    · exact ⟨.str _, _, _, PySem.W.mg_of X G y1, ⟨_, rfl⟩, rfl, fun F => .str _⟩
    · exact ⟨.ref g2, _, _, PySem.W.mg_of X G y2, rfl, rfl, fun F => tup_rp2 x2 m2 s2 F⟩
    · exact ⟨.ref g3, _, _, PySem.W.mg_of X G y3, rfl, rfl, fun F => tup_rp2 x3 m3 s3 F⟩
    · exact ⟨.str _, _, _, PySem.W.mg_of X G y4, ⟨_, rfl⟩, rfl, fun F => .str _⟩
    · exact ⟨.int _, _, _, PySem.W.mg_of X G y5, ⟨_, rfl⟩, rfl, fun F => .int _⟩
  refine ⟨_, fun s v => ?_, fun base _ _ => defs_ok0 (P := P) (w := w) (base := base) hs hb hg 40 21 r_law rfl rfl _ _ D21⟩
  exact .of_eq rfl
end
end Lw

open PySem PySem.W PyProof.Rows in
set_option maxRecDepth 100000 in
set_option maxHeartbeats 0 in
theorem PySem.Challenge.cw_livesalike_k01_tokens_up_to_the_end_holds : PySem.Challenge.rw_livesalike_k01_tokens_up_to_the_end.Holds := by
  w_on; o_law; k_head; (case hw => w_witness2)
  k_fill
  refine Dv.walk_G (l := PySem.Challenge.rw_livesalike_k01_tokens_up_to_the_end) (k := 40) (x := "script") (sp := fun K => Dv.spF K 1 (Dv.fnK Lw.rs Lw.glK 40 21)) rfl rfl ⟨rfl, by decide, by decide⟩ (fun w h Y => PySem.W.kIn_of Y) ?F Lw.win
  case F =>
    intro w mg fa h KX G hmg
    refine' Lw.all_mk KX G hmg ?a0 ?l0 ?c0 ?k0 ?w0_0 ?a1 ?l1 ?c1 ?k1 ?a2 ?l2 ?c2 ?k2 ?a3 ?l3 ?c3 ?k3 ?a4 ?l4 ?c4 ?k4 ?a5 ?l5 ?c5 ?k5 ?a6 ?l6 ?c6 ?k6 ?a7 ?l7 ?c7 ?k7 ?a8 ?l8 ?c8 ?k8 ?a9 ?l9 ?c9 ?k9 ?a10 ?l10 ?c10 ?k10 ?a11 ?l11 ?c11 ?k11 ?a12 ?l12 ?c12 ?k12 ?a13 ?l13 ?c13 ?k13 ?a14 ?l14 ?c14 ?k14 ?a15 ?l15 ?c15 ?k15 ?a16 ?l16 ?c16 ?k16 ?a17 ?l17 ?c17 ?k17 ?a18 ?l18 ?c18 ?k18 ?a19 ?l19 ?c19 ?k19 ?a20 ?l20 ?c20 ?k20 ?a21 ?l21 ?c21 ?k21 ?z0 ?z1 ?z2 ?z3 ?z4 ?z5 ?z6 ?z7 ?z8 ?z9 ?z10 ?z11 ?y0 ?y1 ?y2 ?x2 ?m2 ?s2 ?y3 ?x3 ?m3 ?s3 ?y4 ?y5
    (case a0 => k_is)
    (case l0 => k_is)
    (case c0 => k_is)
    (case k0 => k_is)
    (case w0_0 => k_is)
    (case a1 => k_is)
    (case l1 => k_is)
    (case c1 => k_is)
    (case k1 => k_is)
    (case a2 => k_is)
    (case l2 => k_is)
    (case c2 => k_is)
    (case k2 => k_is)
    (case a3 => k_is)
    (case l3 => k_is)
    (case c3 => k_is)
    (case k3 => k_is)
    (case a4 => k_is)
    (case l4 => k_is)
    (case c4 => k_is)
    (case k4 => k_is)
    (case a5 => k_is)
    (case l5 => k_is)
    (case c5 => k_is)
    (case k5 => k_is)
    (case a6 => k_is)
    (case l6 => k_is)
    (case c6 => k_is)
    (case k6 => k_is)
    (case a7 => k_is)
    (case l7 => k_is)
    (case c7 => k_is)
    (case k7 => k_is)
    (case a8 => k_is)
    (case l8 => k_is)
    (case c8 => k_is)
    (case k8 => k_is)
    (case a9 => k_is)
    (case l9 => k_is)
    (case c9 => k_is)
    (case k9 => k_is)
    (case a10 => k_is)
    (case l10 => k_is)
    (case c10 => k_is)
    (case k10 => k_is)
    (case a11 => k_is)
    (case l11 => k_is)
    (case c11 => k_is)
    (case k11 => k_is)
    (case a12 => k_is)
    (case l12 => k_is)
    (case c12 => k_is)
    (case k12 => k_is)
    (case a13 => k_is)
    (case l13 => k_is)
    (case c13 => k_is)
    (case k13 => k_is)
    (case a14 => k_is)
    (case l14 => k_is)
    (case c14 => k_is)
    (case k14 => k_is)
    (case a15 => k_is)
    (case l15 => k_is)
    (case c15 => k_is)
    (case k15 => k_is)
    (case a16 => k_is)
    (case l16 => k_is)
    (case c16 => k_is)
    (case k16 => k_is)
    (case a17 => k_is)
    (case l17 => k_is)
    (case c17 => k_is)
    (case k17 => k_is)
    (case a18 => k_is)
    (case l18 => k_is)
    (case c18 => k_is)
    (case k18 => k_is)
    (case a19 => k_is)
    (case l19 => k_is)
    (case c19 => k_is)
    (case k19 => k_is)
    (case a20 => k_is)
    (case l20 => k_is)
    (case c20 => k_is)
    (case k20 => k_is)
    (case a21 => k_is)
    (case l21 => k_is)
    (case c21 => k_is)
    (case k21 => k_is)
    (case z0 => k_is)
    (case z1 => k_is)
    (case z2 => k_is)
    (case z3 => k_is)
    (case z4 => k_is)
    (case z5 => k_is)
    (case z6 => k_is)
    (case z7 => k_is)
    (case z8 => k_is)
    (case z9 => k_is)
    (case z10 => k_is)
    (case z11 => k_is)
    (case y0 => k_is)
    (case y1 => k_is)
    (case y2 => k_is)
    (case x2 => k_is)
    (case m2 => rfl)
    (case s2 => rfl)
    (case y3 => k_is)
    (case x3 => k_is)
    (case m3 => rfl)
    (case s3 => rfl)
    (case y4 => k_is)
    (case y5 => k_is)

