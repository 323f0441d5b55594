import PyProof.Rows.All
import Wide.All
import OpenK.AllK
import Wide.FinOn
import HandS.ForMost
import HandS.Evl
import HandS.Style
import PySem.Challenge.RW_farhaul_k72_whole_long_sealed_rows
set_option Elab.async false
set_option linter.all false
set_option maxRecDepth 100000
set_option maxHeartbeats 4000000

namespace Fh
open PySem PySem.Spec PyProof.Rows L2
open Evl (Ex Ex.refl Ex.trans Ex.new ex_l ex_t fresh_back)

/-! ## FhLogic -/

/-! ### data is kept -/
mutual
theorem dpm {K : PySem.W.Frag} {H H' : Hp} (e : Ex H H') : ∀ {v : V} {d : PyData}, Dp K H v d → Dp K H' v d
  | _, _, .non => .non
  | _, _, .bl b => .bl b
  | _, _, .int i => .int i
  | _, _, .str x => .str x
  | _, _, .lst h a => .lst (ex_l e h) (dpam e a)
  | _, _, .tup h a => .tup (ex_t e h) (dpam e a)
theorem dpam {K : PySem.W.Frag} {H H' : Hp} (e : Ex H H') : ∀ {vs : List V} {ds : List PyData}, DpAll K H vs ds → DpAll K H' vs ds
  | _, _, .nil => .nil
  | _, _, .cons h a => .cons (dpm e h) (dpam e a)
end
theorem dpa_len {K : PySem.W.Frag} {H : Hp} : ∀ {vs : List V} {ds : List PyData}, DpAll K H vs ds → vs.length = ds.length
  | _, _, .nil => rfl
  | _, _, .cons _ a => congrArg (· + 1) (dpa_len a)
theorem dpa_app {K : PySem.W.Frag} {H : Hp} : ∀ {vs us : List V} {ds es : List PyData}, DpAll K H vs ds → DpAll K H us es → DpAll K H (vs ++ us) (ds ++ es)
  | _, _, _, _, .nil, b => b
  | _, _, _, _, .cons h a, b => .cons h (dpa_app a b)
theorem dpa_get {K : PySem.W.Frag} {H : Hp} : ∀ {vs : List V} {ds : List PyData} {i : Nat} {d : PyData}, DpAll K H vs ds → ds[i]? = some d → ∃ v, vs[i]? = some v ∧ Dp K H v d
  | _, _, 0, d, .cons h a, e => by
    have e' : _ = d := Option.some.inj e
    subst e'
    exact ⟨_, rfl, h⟩
  | _, _, i + 1, d, .cons h a, e => dpa_get (i := i) a e
theorem dpa_get' {K : PySem.W.Frag} {H : Hp} : ∀ {vs : List V} {ds : List PyData} {i : Nat} {v : V}, DpAll K H vs ds → vs[i]? = some v → ∃ d, ds[i]? = some d ∧ Dp K H v d
  | _, _, 0, v, .cons h a, e => by
    have e' : _ = v := Option.some.inj e
    subst e'
    exact ⟨_, rfl, h⟩
  | _, _, i + 1, v, .cons h a, e => dpa_get' (i := i) a e
theorem dpa_set {K : PySem.W.Frag} {H : Hp} {v : V} {d : PyData} (hv : Dp K H v d) : ∀ {vs : List V} {ds : List PyData} (i : Nat), DpAll K H vs ds → DpAll K H (vs.set i v) (ds.set i d)
  | _, _, _, .nil => .nil
  | _, _, 0, .cons h a => .cons hv a
  | _, _, i + 1, .cons h a => .cons h (dpa_set hv i a)
theorem dpa_rev {K : PySem.W.Frag} {H : Hp} : ∀ {vs : List V} {ds : List PyData}, DpAll K H vs ds → DpAll K H vs.reverse ds.reverse
  | _, _, .nil => .nil
  | _, _, .cons h a => by
    rw [List.reverse_cons, List.reverse_cons]
    exact dpa_app (dpa_rev a) (.cons h .nil)
theorem dpa_drop {K : PySem.W.Frag} {H : Hp} : ∀ {vs : List V} {ds : List PyData} (n : Nat), DpAll K H vs ds → DpAll K H (vs.drop n) (ds.drop n)
  | _, _, 0, a => a
  | _, _, n + 1, .nil => .nil
  | _, _, n + 1, .cons h a => dpa_drop n a
theorem dpa_rep {K : PySem.W.Frag} {H : Hp} {vs : List V} {ds : List PyData} (a : DpAll K H vs ds) : ∀ k : Nat, DpAll K H (List.replicate k vs).flatten (List.replicate k ds).flatten
  | 0 => .nil
  | k + 1 => by
    rw [List.replicate_succ, List.replicate_succ, List.flatten_cons, List.flatten_cons]
    exact dpa_app a (dpa_rep a k)
theorem dpa_int {K : PySem.W.Frag} {H : Hp} : ∀ (ns : List Int), DpAll K H (ns.map V.int) (ns.map PyData.int)
  | [] => .nil
  | n :: ns => .cons (.int n) (dpa_int ns)
theorem dpa_int_inv {K : PySem.W.Frag} {H : Hp} : ∀ {vs : List V} {ns : List Int}, DpAll K H vs (ns.map PyData.int) → vs = ns.map V.int
  | [], [], _ => rfl
  | _ :: _, [], h => nomatch h
  | [], _ :: _, h => nomatch h
  | v :: vs, n :: ns, .cons h a => by
    cases h
    rw [dpa_int_inv a]
    rfl
theorem dpa_bl_inv {K : PySem.W.Frag} {H : Hp} : ∀ {vs : List V} {ns : List Bool}, DpAll K H vs (ns.map PyData.bool) → vs = ns.map V.bl
  | [], [], _ => rfl
  | _ :: _, [], h => nomatch h
  | [], _ :: _, h => nomatch h
  | v :: vs, n :: ns, .cons h a => by
    cases h
    rw [dpa_bl_inv a]
    rfl

/-! ### two heaps: what nobody changes (H0), all (H) -/
def join (H0 H H' : Hp) : Hp := fun p => match H p with
  | none => H' p
  | some _ => H0 p
def off (H : Hp) (p : Addr) : Hp := fun q => if q = p then none else H q
section
variable {H0 H H1 H2 H' : Hp}
theorem join_new {p : Addr} (h : H p = none) : join H0 H H' p = H' p := by
  unfold join
  rw [h]
theorem join_old {p : Addr} (h : H p ≠ none) : join H0 H H' p = H0 p := by
  unfold join
  cases e : H p with
  | none => exact absurd e h
  | some o => rfl
theorem ex_ne (e : Ex H H') {p : Addr} (h : H p ≠ none) : H' p ≠ none := by
  cases q : H p with
  | none => exact absurd q h
  | some o =>
    rw [e p o q]
    exact fun z => nomatch z
theorem some_ne {p : Addr} {o : HO} (h : H p = some o) : H p ≠ none := by
  rw [h]
  exact fun z => nomatch z
theorem join_ex (e0 : Ex H0 H) : Ex H0 (join H0 H H') := fun p o h => by
  rw [join_old (some_ne (e0 p o h))]
  exact h
theorem join_sub (e0 : Ex H0 H) (e : Ex H H') : Ex (join H0 H H') H' := fun p o h => by
  cases q : H p with
  | none =>
    rw [join_new q] at h
    exact h
  | some u =>
    rw [join_old (some_ne q)] at h
    exact e p o (e0 p o h)
theorem join_join (e : Ex H H1) : join (join H0 H H1) H1 H2 = join H0 H H2 ∨ True := .inr trivial
theorem join_join' (e : Ex H H1) (e1 : Ex H1 H2) : Ex (join (join H0 H H1) H1 H2) (join H0 H H2) := fun p o h => by
  cases q : H p with
  | none =>
    rw [join_new q]
    cases q1 : H1 p with
    | none =>
      rw [join_new q1] at h
      exact h
    | some u =>
      rw [join_old (some_ne q1), join_new q] at h
      exact e1 p o h
  | some u =>
    rw [join_old (ex_ne e (some_ne q)), join_old (some_ne q)] at h
    rw [join_old (some_ne q)]
    exact h
theorem join_mono (e1 : Ex H1 H2) : Ex (join H0 H H1) (join H0 H H2) := fun p o h => by
  cases q : H p with
  | none =>
    rw [join_new q] at h
    rw [join_new q]
    exact e1 p o h
  | some u =>
    rw [join_old (some_ne q)] at h
    rw [join_old (some_ne q)]
    exact h
theorem join_refl (e0 : Ex H0 H) : Ex (join H0 H H) H0 := fun p o h => by
  cases q : H p with
  | none =>
    rw [join_new q, q] at h
    cases h
  | some u =>
    rw [join_old (some_ne q)] at h
    exact h
theorem off_same {p : Addr} : off H p p = none := if_pos rfl
theorem off_ne {p q : Addr} (h : q ≠ p) : off H p q = H q := if_neg h
theorem off_sub {p : Addr} : Ex (off H p) H := fun q o h => by
  by_cases e : q = p
  · rw [e, off_same] at h
    cases h
  · rw [off_ne e] at h
    exact h
/-- a new object at p: what was known without it -/
theorem join_off {p : Addr} {o : HO} (e0 : Ex H0 H) (e : Ex H H1) (hp : H1 p = none) : Ex (join H0 H H1) (off (join H0 H (upd H1 p o)) p) := fun q u h => by
  have hq : q ≠ p := by
    intro z
    have hs := join_sub e0 e q u h
    rw [z, hp] at hs
    cases hs
  rw [off_ne hq]
  cases r : H q with
  | none =>
    rw [join_new r] at h
    rw [join_new r, upd_ne hq]
    exact h
  | some w =>
    rw [join_old (some_ne r)] at h
    rw [join_old (some_ne r)]
    exact h
end

/-! ### what the slots hold -/
inductive Ent where
  | no
  | im (d : PyData)
  | ow (ds : List PyData)
structure Rep (K : PySem.W.Frag) (Hb0 Hb H0 H : Hp) (σ : L2.St) (G : List Ent) : Prop where
  ex0 : Ex H0 H
  exb : Ex Hb H
  base : ∀ p o, H0 p = some o → Hb p ≠ none → Hb0 p = some o
  len : σ.length = G.length
  im : ∀ (i : Nat) (d : PyData), G[i]? = some (.im d) → ∃ v, σ[i]? = some (some v) ∧ Dp K H0 v d
  ow : ∀ (i : Nat) (ds : List PyData), G[i]? = some (.ow ds) → ∃ p xs, σ[i]? = some (some (.ref p)) ∧ H0 p = none ∧ Hb p = none ∧ H p = some (.lst xs) ∧ DpAll K H0 xs ds
  sep : ∀ (i j : Nat) (ds es : List PyData) (p : Addr), G[i]? = some (.ow ds) → G[j]? = some (.ow es) → σ[i]? = some (some (.ref p)) → σ[j]? = some (some (.ref p)) → i = j
section
variable {K : PySem.W.Frag} {Hb0 Hb H0 H H' : Hp} {σ : L2.St} {G : List Ent}
theorem Rep.ext (R : Rep K Hb0 Hb H0 H σ G) (e : Ex H H') : Rep K Hb0 Hb (join H0 H H') H' σ G where
  ex0 := join_sub R.ex0 e
  exb := R.exb.trans e
  base := fun p o h hb => R.base p o (by rw [join_old (ex_ne R.exb hb)] at h; exact h) hb
  len := R.len
  im := fun i d h => by
    obtain ⟨v, h1, h2⟩ := R.im i d h
    exact ⟨v, h1, dpm (join_ex R.ex0) h2⟩
  ow := fun i ds h => by
    obtain ⟨p, xs, h1, h2, h3, h4, h5⟩ := R.ow i ds h
    exact ⟨p, xs, h1, by rw [join_old (some_ne h4)]; exact h2, h3, e p _ h4, dpam (join_ex R.ex0) h5⟩
  sep := R.sep
/-- the immutable part may be told smaller or larger names alike -/
theorem Rep.eqv {J : Hp} (R : Rep K Hb0 Hb H0 H σ G) (e1 : Ex H0 J) (e2 : Ex J H) (hb : ∀ p o, J p = some o → Hb p ≠ none → Hb0 p = some o) (ho : ∀ (i : Nat) (ds : List PyData) (p : Addr), G[i]? = some (.ow ds) → σ[i]? = some (some (.ref p)) → J p = none) : Rep K Hb0 Hb J H σ G where
  ex0 := e2
  exb := R.exb
  base := hb
  len := R.len
  im := fun i d h => by
    obtain ⟨v, h1, h2⟩ := R.im i d h
    exact ⟨v, h1, dpm e1 h2⟩
  ow := fun i ds h => by
    obtain ⟨p, xs, h1, h2, h3, h4, h5⟩ := R.ow i ds h
    exact ⟨p, xs, h1, ho i ds p h h1, h3, h4, dpam e1 h5⟩
  sep := R.sep
/-- an object that no slot knows is written -/
theorem Rep.out {p : Addr} {o : HO} (R : Rep K Hb0 Hb H0 H σ G) (h0 : H0 p = none) (hb : Hb p = none) (hs : ∀ (i : Nat) (ds : List PyData) (q : Addr), G[i]? = some (.ow ds) → σ[i]? = some (some (.ref q)) → q ≠ p) : Rep K Hb0 Hb H0 (upd H p o) σ G where
  ex0 := fun q u h => by
    have n : q ≠ p := by
      intro z
      rw [z, h0] at h
      cases h
    rw [upd_ne n]
    exact R.ex0 q u h
  exb := fun q u h => by
    have n : q ≠ p := by
      intro z
      rw [z, hb] at h
      cases h
    rw [upd_ne n]
    exact R.exb q u h
  base := R.base
  len := R.len
  im := R.im
  ow := fun i ds h => by
    obtain ⟨q, xs, h1, h2, h3, h4, h5⟩ := R.ow i ds h
    exact ⟨q, xs, h1, h2, h3, by rw [upd_ne (hs i ds q h h1)]; exact h4, h5⟩
  sep := R.sep
theorem get_set {α : Type} {l : List α} {i j : Nat} {x y : α} (h : (l.set i x)[j]? = some y) : (j = i ∧ y = x) ∨ (j ≠ i ∧ l[j]? = some y) := by
  by_cases e : j = i
  · subst e
    refine .inl ⟨rfl, ?_⟩
    have hl : j < l.length := by
      have h2 := (List.getElem?_eq_some_iff.mp h).1
      rw [List.length_set] at h2
      exact h2
    rw [List.getElem?_set_self hl] at h
    exact (Option.some.inj h).symm
  · refine .inr ⟨e, ?_⟩
    rw [List.getElem?_set_ne (Ne.symm e)] at h
    exact h
/-- a slot is given data -/
theorem Rep.setIm {i : Nat} {v : V} {d : PyData} (R : Rep K Hb0 Hb H0 H σ G) (hv : Dp K H0 v d) : Rep K Hb0 Hb H0 H (σ.set i (some v)) (G.set i (.im d)) where
  ex0 := R.ex0
  exb := R.exb
  base := R.base
  len := by rw [List.length_set, List.length_set]; exact R.len
  im := fun j e h => by
    rcases get_set h with ⟨rfl, e1⟩ | ⟨n, h'⟩
    · cases e1
      have hl : j < σ.length := by
        have h2 := (List.getElem?_eq_some_iff.mp h).1
        rw [List.length_set] at h2
        rw [R.len]
        exact h2
      exact ⟨v, List.getElem?_set_self hl, hv⟩
    · obtain ⟨u, h1, h2⟩ := R.im j e h'
      exact ⟨u, by rw [List.getElem?_set_ne (Ne.symm n)]; exact h1, h2⟩
  ow := fun j ds h => by
    rcases get_set h with ⟨rfl, e1⟩ | ⟨n, h'⟩
    · cases e1
    · obtain ⟨p, xs, h1, h2⟩ := R.ow j ds h'
      exact ⟨p, xs, by rw [List.getElem?_set_ne (Ne.symm n)]; exact h1, h2⟩
  sep := fun j k ds es p h h' hj hk => by
    rcases get_set h with ⟨rfl, e1⟩ | ⟨n, h⟩
    · cases e1
    · rcases get_set h' with ⟨rfl, e1⟩ | ⟨n', h'⟩
      · cases e1
      · rw [List.getElem?_set_ne (Ne.symm n)] at hj
        rw [List.getElem?_set_ne (Ne.symm n')] at hk
        exact R.sep j k ds es p h h' hj hk
/-- a slot is forgotten -/
theorem Rep.setNo {i : Nat} {x : Option V} (R : Rep K Hb0 Hb H0 H σ G) : Rep K Hb0 Hb H0 H (σ.set i x) (G.set i .no) where
  ex0 := R.ex0
  exb := R.exb
  base := R.base
  len := by rw [List.length_set, List.length_set]; exact R.len
  im := fun j e h => by
    rcases get_set h with ⟨rfl, e1⟩ | ⟨n, h'⟩
    · cases e1
    · obtain ⟨u, h1, h2⟩ := R.im j e h'
      exact ⟨u, by rw [List.getElem?_set_ne (Ne.symm n)]; exact h1, h2⟩
  ow := fun j ds h => by
    rcases get_set h with ⟨rfl, e1⟩ | ⟨n, h'⟩
    · cases e1
    · obtain ⟨p, xs, h1, h2⟩ := R.ow j ds h'
      exact ⟨p, xs, by rw [List.getElem?_set_ne (Ne.symm n)]; exact h1, h2⟩
  sep := fun j k ds es p h h' hj hk => by
    rcases get_set h with ⟨rfl, e1⟩ | ⟨n, h⟩
    · cases e1
    · rcases get_set h' with ⟨rfl, e1⟩ | ⟨n', h'⟩
      · cases e1
      · rw [List.getElem?_set_ne (Ne.symm n)] at hj
        rw [List.getElem?_set_ne (Ne.symm n')] at hk
        exact R.sep j k ds es p h h' hj hk
/-- a slot is given a list of its own -/
theorem Rep.setOw {i : Nat} {p : Addr} {xs : List V} {ds : List PyData} (R : Rep K Hb0 Hb H0 H σ G) (h0 : H0 p = none) (hb : Hb p = none) (hp : H p = some (.lst xs)) (ha : DpAll K H0 xs ds)
    (hs : ∀ (j : Nat) (es : List PyData) (q : Addr), j ≠ i → G[j]? = some (.ow es) → σ[j]? = some (some (.ref q)) → q ≠ p) : Rep K Hb0 Hb H0 H (σ.set i (some (.ref p))) (G.set i (.ow ds)) where
  ex0 := R.ex0
  exb := R.exb
  base := R.base
  len := by rw [List.length_set, List.length_set]; exact R.len
  im := fun j e h => by
    rcases get_set h with ⟨rfl, e1⟩ | ⟨n, h'⟩
    · cases e1
    · obtain ⟨u, h1, h2⟩ := R.im j e h'
      exact ⟨u, by rw [List.getElem?_set_ne (Ne.symm n)]; exact h1, h2⟩
  ow := fun j es h => by
    rcases get_set h with ⟨rfl, e1⟩ | ⟨n, h'⟩
    · cases e1
      have hl : j < σ.length := by
        have h2 := (List.getElem?_eq_some_iff.mp h).1
        rw [List.length_set] at h2
        rw [R.len]
        exact h2
      exact ⟨p, xs, List.getElem?_set_self hl, h0, hb, hp, ha⟩
    · obtain ⟨q, ys, h1, h2⟩ := R.ow j es h'
      exact ⟨q, ys, by rw [List.getElem?_set_ne (Ne.symm n)]; exact h1, h2⟩
  sep := fun j k es fs q h h' hj hk => by
    rcases get_set h with ⟨e0, e1⟩ | ⟨n, h1⟩
    · rcases get_set h' with ⟨e0', e1'⟩ | ⟨n', h2⟩
      · rw [e0, e0']
      · subst e0
        have hl : j < σ.length := by
          have h2 := (List.getElem?_eq_some_iff.mp hj).1
          rw [List.length_set] at h2
          exact h2
        rw [List.getElem?_set_self hl] at hj
        rw [List.getElem?_set_ne (Ne.symm n')] at hk
        have hq : p = q := V.ref.inj (Option.some.inj (Option.some.inj hj))
        subst hq
        exact absurd rfl (hs k fs p n' h2 hk)
    · rcases get_set h' with ⟨e0', e1'⟩ | ⟨n', h2⟩
      · subst e0'
        have hl : k < σ.length := by
          have h2 := (List.getElem?_eq_some_iff.mp hk).1
          rw [List.length_set] at h2
          exact h2
        rw [List.getElem?_set_self hl] at hk
        rw [List.getElem?_set_ne (Ne.symm n)] at hj
        have hq : p = q := V.ref.inj (Option.some.inj (Option.some.inj hk))
        subst hq
        exact absurd rfl (hs j es p n h1 hj)
      · rw [List.getElem?_set_ne (Ne.symm n)] at hj
        rw [List.getElem?_set_ne (Ne.symm n')] at hk
        exact R.sep j k es fs q h1 h2 hj hk
end

/-! ## FhExpr -/

/-! ### what an expression gives -/
def EvD (K : PySem.W.Frag) (te : TE) (G : List Ent) (d : PyData) : Prop := ∀ (Hb0 Hb H0 H : Hp) (σ : L2.St), Rep K Hb0 Hb H0 H σ G → ∀ Q : VK, (∀ v H', Ex H H' → Dp K (join H0 H H') v d → Q v H') → te σ H Q
/-- a new list -/
def EvF (K : PySem.W.Frag) (te : TE) (G : List Ent) (ds : List PyData) : Prop := ∀ (Hb0 Hb H0 H : Hp) (σ : L2.St), Rep K Hb0 Hb H0 H σ G → ∀ Q : VK,
  (∀ p xs H', Ex H H' → H p = none → H' p = some (.lst xs) → DpAll K (off (join H0 H H') p) xs ds → Q (.ref p) H') → te σ H Q
/-- a list as it now is -/
def EvO (K : PySem.W.Frag) (te : TE) (G : List Ent) (ds : List PyData) : Prop := ∀ (Hb0 Hb H0 H : Hp) (σ : L2.St), Rep K Hb0 Hb H0 H σ G → ∀ Q : VK,
  (∀ p xs H', Ex H H' → SqL K H' p xs → DpAll K (join H0 H H') xs ds → Q (.ref p) H') → te σ H Q
def EvT (K : PySem.W.Frag) (tt : TT) (G : List Ent) (b : Bool) : Prop := ∀ (Hb0 Hb H0 H : Hp) (σ : L2.St), Rep K Hb0 Hb H0 H σ G → ∀ Q : Bool → Hp → Prop, (∀ H', Ex H H' → Q b H') → tt σ H Q
def EvA (K : PySem.W.Frag) (ta : TA) (G : List Ent) (ds : List PyData) : Prop := ∀ (Hb0 Hb H0 H : Hp) (σ : L2.St), Rep K Hb0 Hb H0 H σ G → ∀ Q : List V → Hp → Prop, (∀ vs H', Ex H H' → DpAll K (join H0 H H') vs ds → Q vs H') → ta σ H Q
/-- two values to one -/
def RD (K : PySem.W.Frag) (r : R2) (d e f : PyData) : Prop := ∀ (H0 H : Hp), Ex H0 H → ∀ (v u : V), Dp K H0 v d → Dp K H0 u e → ∀ Q : VK, (∀ z, (∀ J, Dp K J z f) → Q z H) → r v u H Q
def RU (K : PySem.W.Frag) (r : V → Hp → VK → Prop) (d f : PyData) : Prop := ∀ (H0 H : Hp), Ex H0 H → ∀ (v : V), Dp K H0 v d → ∀ Q : VK, (∀ z, (∀ J, Dp K J z f) → Q z H) → r v H Q
section
variable {K : PySem.W.Frag} {G : List Ent} {ta tb tc te : TE} {t u : TT} {d e f : PyData} {ds es fs : List PyData} {r r' : R2}
theorem EvD.eq (h : EvD K te G d) (q : d = e) : EvD K te G e := q ▸ h
theorem EvF.eq (h : EvF K te G ds) (q : ds = es) : EvF K te G es := q ▸ h
theorem EvO.eq (h : EvO K te G ds) (q : ds = es) : EvO K te G es := q ▸ h
theorem EvT.eq {a b : Bool} (h : EvT K t G a) (q : a = b) : EvT K t G b := q ▸ h
theorem EvA.eq {ta : TA} (h : EvA K ta G ds) (q : ds = es) : EvA K ta G es := q ▸ h
theorem EvF.toD (h : EvF K te G ds) : EvD K te G (.list ds) := fun Hb0 Hb H0 H σ R Q q => h Hb0 Hb H0 H σ R Q fun p xs H' e np hp a =>
  q _ H' e (.lst (.inl (.inl (by rw [join_new np]; exact hp))) (dpam off_sub a))
theorem EvF.toO (h : EvF K te G ds) : EvO K te G ds := fun Hb0 Hb H0 H σ R Q q => h Hb0 Hb H0 H σ R Q fun p xs H' e np hp a =>
  q _ xs H' e (.inl (.inl hp)) (dpam off_sub a)
theorem EvD.toO (h : EvD K te G (.list ds)) : EvO K te G ds := fun Hb0 Hb H0 H σ R Q q => h Hb0 Hb H0 H σ R Q fun v H' e hv => by
  cases hv with
  | lst hs ha => exact q _ _ H' e (ex_l (join_sub R.ex0 e) hs) ha
theorem evo_var {i : Nat} (h : G[i]? = some (.ow ds)) : EvO K (tVar i) G ds := fun Hb0 Hb H0 H σ R Q q => by
  obtain ⟨p, xs, h1, h2, h3, h4, h5⟩ := R.ow i ds h
  exact ⟨_, h1, q p xs H (Ex.refl H) (.inl (.inl h4)) (dpam (join_ex R.ex0) h5)⟩
theorem evd_var {i : Nat} (h : G[i]? = some (.im d)) : EvD K (tVar i) G d := fun Hb0 Hb H0 H σ R Q q => by
  obtain ⟨v, h1, h2⟩ := R.im i d h
  exact ⟨v, h1, q v H (Ex.refl H) (dpm (join_ex R.ex0) h2)⟩
theorem evd_int {i : Int} : EvD K (tC (.int i)) G (.int i) := fun _ _ _ H _ _ _ q => q _ H (Ex.refl H) (.int i)
theorem evd_non : EvD K (tC .non) G .none := fun _ _ _ H _ _ _ q => q _ H (Ex.refl H) .non
theorem evd_bl {b : Bool} : EvD K (tC (.bl b)) G (.bool b) := fun _ _ _ H _ _ _ q => q _ H (Ex.refl H) (.bl b)
theorem evd_op (ha : EvD K ta G d) (hb : EvD K tb G e) (hr : RD K r d e f) : EvD K (tOp r ta tb) G f := fun Hb0 Hb H0 H σ R Q q =>
  ha Hb0 Hb H0 H σ R _ fun v H1 e1 hv => hb Hb0 Hb _ H1 σ (R.ext e1) _ fun u H2 e2 hu =>
    hr (join H0 H H2) H2 (join_sub R.ex0 (e1.trans e2)) v u (dpm (join_mono e2) hv) (dpm (join_join' e1 e2) hu) Q fun z hz => q z H2 (e1.trans e2) (hz _)
theorem evd_un {r : V → Hp → VK → Prop} (ha : EvD K ta G d) (hr : RU K r d f) : EvD K (tUn r ta) G f := fun Hb0 Hb H0 H σ R Q q =>
  ha Hb0 Hb H0 H σ R _ fun v H1 e1 hv => hr _ H1 (join_sub R.ex0 e1) v hv Q fun z hz => q z H1 e1 (hz _)
theorem evd_chain {k k' : Bool} (ha : EvD K ta G d) (hb : EvD K tb G e) (hr : RD K r d e (.bool k)) (hc : k = true → EvD K tc G f ∧ RD K r' e f (.bool k')) : EvD K (tChain r r' ta tb tc) G (.bool (k && k')) := fun Hb0 Hb H0 H σ R Q q =>
  ha Hb0 Hb H0 H σ R _ fun v H1 e1 hv => hb Hb0 Hb _ H1 σ (R.ext e1) _ fun u H2 e2 hu =>
    hr (join H0 H H2) H2 (join_sub R.ex0 (e1.trans e2)) v u (dpm (join_mono e2) hv) (dpm (join_join' e1 e2) hu) _ fun z hz => by
      have hz' := hz (fun _ => none)
      cases hz'
      refine ⟨k, rfl, ?_⟩
      cases k with
      | false =>
        rw [if_neg Bool.false_ne_true]
        exact q _ H2 (e1.trans e2) (.bl _)
      | true =>
        rw [if_pos rfl]
        obtain ⟨c1, c2⟩ := hc rfl
        refine c1 Hb0 Hb _ H2 σ (R.ext (e1.trans e2)) _ fun w H3 e3 hw => ?_
        exact c2 (join H0 H H3) H3 (join_sub R.ex0 ((e1.trans e2).trans e3)) u w (dpm (join_mono e3) (dpm (join_join' e1 e2) hu)) (dpm (join_join' (e1.trans e2) e3) hw) Q fun z2 hz2 => q z2 H3 ((e1.trans e2).trans e3) (hz2 _)
/-! arguments -/
theorem eva_nil : EvA K tNil G [] := fun _ _ _ H _ _ _ q => q [] H (Ex.refl H) .nil
theorem eva_cons {tr : TA} (ha : EvD K ta G d) (hr : EvA K tr G ds) : EvA K (tCons ta tr) G (d :: ds) := fun Hb0 Hb H0 H σ R Q q =>
  ha Hb0 Hb H0 H σ R _ fun v H1 e1 hv => hr Hb0 Hb _ H1 σ (R.ext e1) _ fun vs H2 e2 hvs =>
    q _ H2 (e1.trans e2) (.cons (dpm (join_mono e2) hv) (dpam (join_join' e1 e2) hvs))
theorem evd_tup {tr : TA} (ha : EvA K tr G ds) (hl : ds.length ≤ 100000) : EvD K (tTup tr) G (.tuple ds) := fun Hb0 Hb H0 H σ R Q q =>
  ha Hb0 Hb H0 H σ R _ fun vs H1 e1 hvs => ⟨Nat.le_trans (by rw [dpa_len hvs]; exact hl) (by decide), fun p hp =>
    q _ _ (e1.trans (Ex.new hp)) (.tup (.inl (.inl (by rw [join_new (fresh_back e1 hp), upd_same]))) (dpam (join_mono (Ex.new hp)) hvs))⟩
theorem evf_lst {tr : TA} (ha : EvA K tr G ds) (hl : ds.length ≤ 100000) : EvF K (tLst tr) G ds := fun Hb0 Hb H0 H σ R Q q =>
  ha Hb0 Hb H0 H σ R _ fun vs H1 e1 hvs => ⟨Nat.le_trans (by rw [dpa_len hvs]; exact hl) (by decide), fun p hp =>
    q p vs _ (e1.trans (Ex.new hp)) (fresh_back e1 hp) upd_same (dpam (join_off R.ex0 e1 hp) hvs)⟩
theorem evf_cat (ha : EvF K ta G ds) (hb : EvF K tb G es) (hl : ds.length + es.length ≤ 100000) : EvF K (tOp rCat ta tb) G (ds ++ es) := fun Hb0 Hb H0 H σ R Q q =>
  ha Hb0 Hb H0 H σ R _ fun p xs H1 e1 np hp a => hb Hb0 Hb _ H1 σ (R.ext e1) _ fun p' ys H2 e2 np' hp' b =>
    ⟨p, p', xs, ys, rfl, rfl, e2 p _ hp, hp', Nat.le_trans (by rw [dpa_len a, dpa_len b]; exact hl) (by decide), fun n hn =>
      q n _ _ ((e1.trans e2).trans (Ex.new hn)) (fresh_back (e1.trans e2) hn) upd_same
        (dpam (join_off R.ex0 (e1.trans e2) hn) (dpa_app (dpam (join_mono e2) (dpam off_sub a)) (dpam (join_join' e1 e2) (dpam off_sub b))))⟩
theorem evf_rep {k : Int} (ha : EvF K ta G ds) (hb : EvD K tb G (.int k)) (h0 : -1000000 ≤ k) (h1 : k ≤ 1000000) (hl : ds.length * k.toNat ≤ 100000) : EvF K (tOp rRep ta tb) G (List.replicate k.toNat ds).flatten := fun Hb0 Hb H0 H σ R Q q =>
  ha Hb0 Hb H0 H σ R _ fun p xs H1 e1 np hp a => hb Hb0 Hb _ H1 σ (R.ext e1) _ fun v H2 e2 hv => by
    cases hv
    exact ⟨p, k, xs, rfl, rfl, e2 p _ hp, by omega, by omega, Nat.le_trans (by rw [dpa_len a]; exact hl) (by decide), fun n hn =>
      q n _ _ ((e1.trans e2).trans (Ex.new hn)) (fresh_back (e1.trans e2) hn) upd_same
        (dpam (join_off R.ex0 (e1.trans e2) hn) (dpa_rep (dpam (join_mono e2) (dpam off_sub a)) _))⟩
/-! subscripts -/
theorem atI_dpa {H : Hp} {xs : List V} {i : Int} (a : DpAll K H xs ds) (h : atI ds i = some d) : ∃ v, atI xs i = some v ∧ Dp K H v d := by
  unfold atI at h ⊢
  rw [dpa_len a]
  cases q : ixN ds.length i with
  | none =>
    rw [q] at h
    cases h
  | some j =>
    rw [q] at h
    exact dpa_get a h
theorem evd_ix {i : Int} (ha : EvO K ta G ds) (hb : EvD K tb G (.int i)) (h : atI ds i = some d) : EvD K (tOp (rIxL K) ta tb) G d := fun Hb0 Hb H0 H σ R Q q =>
  ha Hb0 Hb H0 H σ R _ fun p xs H1 e1 hs a => hb Hb0 Hb _ H1 σ (R.ext e1) _ fun v H2 e2 hv => by
    cases hv
    obtain ⟨u, h1, h2⟩ := atI_dpa (dpam (join_mono e2) a) h
    exact ⟨p, xs, i, u, rfl, rfl, ex_l e2 hs, h1, q u H2 (e1.trans e2) h2⟩
theorem evd_ixT {i : Int} (ha : EvD K ta G (.tuple ds)) (hb : EvD K tb G (.int i)) (h : atI ds i = some d) : EvD K (tOp (rIxT K) ta tb) G d := fun Hb0 Hb H0 H σ R Q q =>
  ha Hb0 Hb H0 H σ R _ fun w H1 e1 hw => hb Hb0 Hb _ H1 σ (R.ext e1) _ fun v H2 e2 hv => by
    cases hv
    cases hw with
    | tup hs a =>
      obtain ⟨u, h1, h2⟩ := atI_dpa (dpam (join_mono e2) a) h
      exact ⟨_, _, i, u, rfl, rfl, ex_t e2 (ex_t (join_sub R.ex0 e1) hs), h1, q u H2 (e1.trans e2) h2⟩
theorem cut_dpa {H : Hp} {xs : List V} (a : DpAll K H xs ds) (n : Nat) : DpAll K H (cutV xs (some (n : Int)) none) (ds.drop n) := by
  have e : cutV xs (some (n : Int)) none = xs.drop n := by
    unfold cutV
    rw [HT.sIx_nat, HT.sIx_none]
    by_cases h : n ≤ xs.length
    · rw [Nat.min_eq_left h]
      apply List.take_of_length_le
      rw [List.length_drop]
      exact Nat.le_refl _
    · rw [Nat.min_eq_right (by omega), List.drop_of_length_le (Nat.le_refl _), List.drop_of_length_le (by omega)]
      exact List.take_nil
  rw [e]
  exact dpa_drop n a
/-- xs[n:] -/
theorem evf_from {n : Nat} (ha : EvO K ta G ds) (hb : EvD K tb G (.int (n : Int))) : EvF K (tSl (rSlL K) ta (tPart tb) tNoPart) G (ds.drop n) := fun Hb0 Hb H0 H σ R Q q =>
  ha Hb0 Hb H0 H σ R _ fun p xs H1 e1 hs a => hb Hb0 Hb _ H1 σ (R.ext e1) _ fun v H2 e2 hv => by
    cases hv
    exact ⟨_, rfl, p, xs, rfl, ex_l e2 hs, fun m hm => q m _ _ ((e1.trans e2).trans (Ex.new hm)) (fresh_back (e1.trans e2) hm) upd_same
      (dpam (join_off R.ex0 (e1.trans e2) hm) (cut_dpa (dpam (join_mono e2) a) n))⟩
/-- xs[::-1] -/
theorem evf_rev (ha : EvO K ta G ds) : EvF K (tRevL K ta) G ds.reverse := fun Hb0 Hb H0 H σ R Q q =>
  ha Hb0 Hb H0 H σ R _ fun p xs H1 e1 hs a => ⟨p, xs, rfl, hs, fun m hm => q m _ _ (e1.trans (Ex.new hm)) (fresh_back e1 hm) upd_same (dpam (join_off R.ex0 e1 hm) (dpa_rev a))⟩
/-! calls of built-ins -/
def rLen (K : PySem.W.Frag) : List V → Hp → VK → Prop := fun xs H Q => ∃ p ys, xs = [.ref p] ∧ (SqL K H p ys ∨ SqT K H p ys) ∧ Q (.int ys.length) H
def rList (K : PySem.W.Frag) : List V → Hp → VK → Prop := fun xs H Q => ∃ p ys, xs = [.ref p] ∧ (SqL K H p ys ∨ SqT K H p ys) ∧ ∀ l, H l = none → Q (.ref l) (upd H l (.lst ys))
def rInt1 : List V → Hp → VK → Prop := fun xs H Q => (∃ i, xs = [.int i] ∧ Q (.int i) H) ∨ ∃ k, xs = [.bl k] ∧ Q (.int (if k then 1 else 0)) H
def rMin2 : List V → Hp → VK → Prop := fun xs H Q => ∃ i j, xs = [.int i, .int j] ∧ Q (.int (if j < i then j else i)) H
def rAbs : List V → Hp → VK → Prop := fun xs H Q => ∃ i, xs = [.int i] ∧ Q (.int (if i < 0 then -i else i)) H
theorem evd_len (ha : EvO K ta G ds) : EvD K (tCB (rLen K) (tCons ta tNil)) G (.int (ds.length : Int)) := fun Hb0 Hb H0 H σ R Q q =>
  ha Hb0 Hb H0 H σ R _ fun p xs H1 e1 hs a => ⟨p, xs, rfl, .inl hs, by rw [dpa_len a]; exact q _ H1 e1 (.int _)⟩
theorem evf_list (ha : EvO K ta G ds) : EvF K (tCB (rList K) (tCons ta tNil)) G ds := fun Hb0 Hb H0 H σ R Q q =>
  ha Hb0 Hb H0 H σ R _ fun p xs H1 e1 hs a => ⟨p, xs, rfl, .inl hs, fun m hm => q m _ _ (e1.trans (Ex.new hm)) (fresh_back e1 hm) upd_same (dpam (join_off R.ex0 e1 hm) a)⟩
theorem evd_intI {i : Int} (ha : EvD K ta G (.int i)) : EvD K (tCB rInt1 (tCons ta tNil)) G (.int i) := fun Hb0 Hb H0 H σ R Q q =>
  ha Hb0 Hb H0 H σ R _ fun v H1 e1 hv => by
    cases hv
    exact .inl ⟨i, rfl, q _ H1 e1 (.int _)⟩
theorem evd_intB {b : Bool} (ha : EvD K ta G (.bool b)) : EvD K (tCB rInt1 (tCons ta tNil)) G (.int (if b then 1 else 0)) := fun Hb0 Hb H0 H σ R Q q =>
  ha Hb0 Hb H0 H σ R _ fun v H1 e1 hv => by
    cases hv
    exact .inr ⟨b, rfl, q _ H1 e1 (.int _)⟩
theorem evd_abs {i : Int} (ha : EvD K ta G (.int i)) : EvD K (tCB rAbs (tCons ta tNil)) G (.int (if i < 0 then -i else i)) := fun Hb0 Hb H0 H σ R Q q =>
  ha Hb0 Hb H0 H σ R _ fun v H1 e1 hv => by
    cases hv
    exact ⟨i, rfl, q _ H1 e1 (.int _)⟩
theorem evd_min2 {i j : Int} (ha : EvD K ta G (.int i)) (hb : EvD K tb G (.int j)) : EvD K (tCB rMin2 (tCons ta (tCons tb tNil))) G (.int (if j < i then j else i)) := fun Hb0 Hb H0 H σ R Q q =>
  ha Hb0 Hb H0 H σ R _ fun v H1 e1 hv => hb Hb0 Hb _ H1 σ (R.ext e1) _ fun u H2 e2 hu => by
    cases hv
    cases hu
    exact ⟨i, j, rfl, q _ H2 (e1.trans e2) (.int _)⟩
theorem evd_sum {ns : List Int} (ha : EvO K ta G (ns.map PyData.int)) : EvD K (tCB (rSum K) (tCons ta tNil)) G (.int ns.sum) := fun Hb0 Hb H0 H σ R Q q =>
  ha Hb0 Hb H0 H σ R _ fun p xs H1 e1 hs a => ⟨p, ns, rfl, by rw [← dpa_int_inv a]; exact hs, q _ H1 e1 (.int _)⟩
theorem evd_all {bs : List Bool} (ha : EvO K ta G (bs.map PyData.bool)) : EvD K (tCB (rAll K) (tCons ta tNil)) G (.bool (bs.all id)) := fun Hb0 Hb H0 H σ R Q q =>
  ha Hb0 Hb H0 H σ R _ fun p xs H1 e1 hs a => ⟨p, bs, rfl, by rw [← dpa_bl_inv a]; exact hs, q _ H1 e1 (.bl _)⟩
theorem evd_min {ns : List Int} {m : Int} (ha : EvO K ta G (ns.map PyData.int)) (h1 : m ∈ ns) (h2 : ∀ y, y ∈ ns → m ≤ y) : EvD K (tCB (rMin K) (tCons ta tNil)) G (.int m) := fun Hb0 Hb H0 H σ R Q q =>
  ha Hb0 Hb H0 H σ R _ fun p xs H1 e1 hs a => ⟨p, ns, rfl, by rw [← dpa_int_inv a]; exact hs, List.length_pos_of_mem h1, fun m' k1 k2 => by
    have e : m' = m := Int.le_antisymm (k2 m h1) (h2 m' k1)
    rw [e]
    exact q _ H1 e1 (.int _)⟩
theorem evd_max {ns : List Int} {m : Int} (ha : EvO K ta G (ns.map PyData.int)) (h1 : m ∈ ns) (h2 : ∀ y, y ∈ ns → y ≤ m) : EvD K (tCB (rMax K) (tCons ta tNil)) G (.int m) := fun Hb0 Hb H0 H σ R Q q =>
  ha Hb0 Hb H0 H σ R _ fun p xs H1 e1 hs a => ⟨p, ns, rfl, by rw [← dpa_int_inv a]; exact hs, List.length_pos_of_mem h1, fun m' k1 k2 => by
    have e : m' = m := Int.le_antisymm (h2 m' k1) (k2 m h1)
    rw [e]
    exact q _ H1 e1 (.int _)⟩
/-! calls of defs -/
def FnSp (K : PySem.W.Frag) (R : List PyData → PyData → Prop) : Sp := fun vs H Q _ => ∃ (H0 : Hp) (ds : List PyData) (r : PyData), Ex H0 H ∧ DpAll K H0 vs ds ∧ R ds r ∧ ∀ v H', Ex H H' → Dp K (join H0 H H') v r → Q v H'
theorem evd_call {S : List PyData → PyData → Prop} {E : XK} {tr : TA} (ha : EvA K tr G ds) (hr : S ds d) : EvD K (tCall (FnSp K S) [] E tr) G d := fun Hb0 Hb H0 H σ R Q q =>
  ha Hb0 Hb H0 H σ R _ fun vs H1 e1 hvs => ⟨join H0 H H1, ds, d, join_sub R.ex0 e1, by rw [List.append_nil]; exact hvs, hr, fun v H' e' hv => q v H' (e1.trans e') (dpm (join_join' e1 e') hv)⟩
/-! tests -/
theorem evt_test {b : Bool} (h : EvD K te G (.bool b)) : EvT K (tTest te) G b := fun Hb0 Hb H0 H σ R Q q => h Hb0 Hb H0 H σ R _ fun v H1 e1 hv => by
  cases hv
  exact ⟨b, rfl, q H1 e1⟩
theorem evt_B {b : Bool} (h : EvD K te G (.bool b)) : EvT K (tB te) G b := fun Hb0 Hb H0 H σ R Q q => h Hb0 Hb H0 H σ R _ fun v H1 e1 hv => by
  cases hv
  exact ⟨b, rfl, q H1 e1⟩
theorem evt_and {a b : Bool} (h1 : EvT K t G a) (h2 : a = true → EvT K u G b) : EvT K (tAnd t u) G (a && b) := fun Hb0 Hb H0 H σ R Q q => h1 Hb0 Hb H0 H σ R _ fun H1 e1 => by
  cases a with
  | true =>
    show u σ H1 Q
    exact h2 rfl Hb0 Hb _ H1 σ (R.ext e1) Q fun H2 e2 => q H2 (e1.trans e2)
  | false =>
    show Q false H1
    exact q H1 e1
theorem evt_or {a b : Bool} (h1 : EvT K t G a) (h2 : a = false → EvT K u G b) : EvT K (tOr t u) G (a || b) := fun Hb0 Hb H0 H σ R Q q => h1 Hb0 Hb H0 H σ R _ fun H1 e1 => by
  cases a with
  | true =>
    show Q true H1
    exact q H1 e1
  | false =>
    show u σ H1 Q
    exact h2 rfl Hb0 Hb _ H1 σ (R.ext e1) Q fun H2 e2 => q H2 (e1.trans e2)
theorem evt_not {a : Bool} (h1 : EvT K t G a) : EvT K (tNot t) G (!a) := fun Hb0 Hb H0 H σ R Q q => h1 Hb0 Hb H0 H σ R _ fun H1 e1 => q H1 e1
theorem evd_or {a b : Bool} (h1 : EvD K ta G (.bool a)) (h2 : a = false → EvD K tb G (.bool b)) : EvD K (tOrV ta tb) G (.bool (a || b)) := fun Hb0 Hb H0 H σ R Q q => h1 Hb0 Hb H0 H σ R _ fun v H1 e1 hv => by
  cases hv
  refine ⟨a, rfl, ?_⟩
  cases a with
  | true =>
    show Q (.bl true) H1
    exact q _ H1 e1 (.bl _)
  | false =>
    show tb σ H1 Q
    exact h2 rfl Hb0 Hb _ H1 σ (R.ext e1) Q fun v2 H2 e2 hv2 => q v2 H2 (e1.trans e2) (dpm (join_join' e1 e2) hv2)
theorem evd_if {b : Bool} (h : EvT K t G b) (h1 : b = true → EvD K ta G d) (h2 : b = false → EvD K tb G d) : EvD K (tIf t ta tb) G d := fun Hb0 Hb H0 H σ R Q q => h Hb0 Hb H0 H σ R _ fun H1 e1 => by
  cases b with
  | true =>
    show ta σ H1 Q
    exact h1 rfl Hb0 Hb _ H1 σ (R.ext e1) Q fun v2 H2 e2 hv2 => q v2 H2 (e1.trans e2) (dpm (join_join' e1 e2) hv2)
  | false =>
    show tb σ H1 Q
    exact h2 rfl Hb0 Hb _ H1 σ (R.ext e1) Q fun v2 H2 e2 hv2 => q v2 H2 (e1.trans e2) (dpm (join_join' e1 e2) hv2)
/-- a list's truth -/
def tTruth (K : PySem.W.Frag) (ta : TE) : TT := fun σ H Q => ta σ H fun x H' => ∃ k, TruV K x H' k ∧ Q k H'
theorem evt_truth (ha : EvO K ta G ds) : EvT K (tTruth K ta) G (!ds.isEmpty) := fun Hb0 Hb H0 H σ R Q q => ha Hb0 Hb H0 H σ R _ fun p xs H1 e1 hs a => by
  refine ⟨!ds.isEmpty, .inl ⟨xs, hs, ?_⟩, q H1 e1⟩
  cases a <;> rfl
/-! operations on data -/
theorem rd_0 {g : Int → Int → V} {i j : Int} (h : ∀ J, Dp K J (g i j) f) : RD K (rI0 g) (.int i) (.int j) f := fun H0 H _ v u hv hu Q q => by
  cases hv
  cases hu
  exact ⟨i, j, rfl, rfl, q _ h⟩
theorem rd_1 {C : Int → Int → Prop} {g : Int → Int → V} {i j : Int} (hc : C i j) (h : ∀ J, Dp K J (g i j) f) : RD K (rI C g) (.int i) (.int j) f := fun H0 H _ v u hv hu Q q => by
  cases hv
  cases hu
  exact ⟨i, j, rfl, rfl, hc, q _ h⟩
def isN : PyData → Bool
  | .none => true
  | _ => false
theorem isN_ok {J : Hp} {v : V} (h : Dp K J v d) : decide (v = .non) = isN d := by
  cases h <;> rfl
def rIs : R2 := fun x y H Q => y = .non ∧ Q (.bl (decide (x = .non))) H
def rIsnt : R2 := fun x y H Q => y = .non ∧ Q (.bl (!decide (x = .non))) H
theorem rd_is : RD K rIs d .none (.bool (isN d)) := fun H0 H _ v u hv hu Q q => by
  cases hu
  exact ⟨rfl, by rw [isN_ok hv]; exact q _ fun _ => .bl _⟩
theorem rd_isnt : RD K rIsnt d .none (.bool (!isN d)) := fun H0 H _ v u hv hu Q q => by
  cases hu
  exact ⟨rfl, by rw [isN_ok hv]; exact q _ fun _ => .bl _⟩
def oD : Option Int → PyData
  | none => .none
  | some i => .int i
def oV : Option Int → V
  | none => .non
  | some i => .int i
theorem oD_inv {J : Hp} {v : V} : ∀ {o : Option Int}, Dp K J v (oD o) → v = oV o
  | none, h => by cases h; rfl
  | some i, h => by cases h; rfl
theorem oV_eq (a b : Option Int) : decide (oV a = oV b) = decide (a = b) := by
  cases a with
  | none => cases b with
    | none => rfl
    | some j => rfl
  | some i => cases b with
    | none => rfl
    | some j =>
      by_cases e : i = j
      · subst e
        rw [decide_eq_true rfl, decide_eq_true rfl]
      · show decide (V.int i = V.int j) = decide (some i = some j)
        rw [decide_eq_false (fun z => e (V.int.inj z)), decide_eq_false (fun z => e (Option.some.inj z))]
theorem oV_scal (a b : Option Int) : scal (oV a) (oV b) = true := by
  cases a <;> cases b <;> rfl
theorem rd_eq (a b : Option Int) : RD K rEq (oD a) (oD b) (.bool (decide (a = b))) := fun H0 H _ v u hv hu Q q => by
  rw [oD_inv hv, oD_inv hu]
  exact ⟨oV_scal a b, by rw [oV_eq]; exact q _ fun _ => .bl _⟩
theorem rd_ne (a b : Option Int) : RD K rNe (oD a) (oD b) (.bool (!decide (a = b))) := fun H0 H _ v u hv hu Q q => by
  rw [oD_inv hv, oD_inv hu]
  exact ⟨oV_scal a b, by rw [oV_eq]; exact q _ fun _ => .bl _⟩
theorem rd_eqI (i j : Int) : RD K rEq (.int i) (.int j) (.bool (decide (i = j))) := fun H0 H _ v u hv hu Q q => by
  cases hv
  cases hu
  refine ⟨rfl, ?_⟩
  by_cases e : i = j
  · subst e
    rw [decide_eq_true (rfl : V.int i = V.int i)]
    exact q _ fun _ => by rw [decide_eq_true (rfl : i = i)]; exact .bl _
  · rw [decide_eq_false (fun z => e (V.int.inj z))]
    exact q _ fun _ => by rw [decide_eq_false e]; exact .bl _
theorem rd_neI (i j : Int) : RD K rNe (.int i) (.int j) (.bool (!decide (i = j))) := fun H0 H _ v u hv hu Q q => by
  cases hv
  cases hu
  refine ⟨rfl, ?_⟩
  by_cases e : i = j
  · subst e
    rw [decide_eq_true (rfl : V.int i = V.int i)]
    exact q _ fun _ => by rw [decide_eq_true (rfl : i = i)]; exact .bl _
  · rw [decide_eq_false (fun z => e (V.int.inj z))]
    exact q _ fun _ => by rw [decide_eq_false e]; exact .bl _
theorem rd_eqD (h1 : SeqAt.shaped d = true) (h2 : SeqAt.shaped e = true) : RD K (rEqD K) d e (.bool (PyData.eqv d e)) := fun H0 H e0 v u hv hu Q q =>
  ⟨d, e, dpm e0 hv, dpm e0 hu, h1, h2, q _ fun _ => .bl _⟩
theorem rd_neD (h1 : SeqAt.shaped d = true) (h2 : SeqAt.shaped e = true) : RD K (rNeD K) d e (.bool (!PyData.eqv d e)) := fun H0 H e0 v u hv hu Q q =>
  ⟨d, e, dpm e0 hv, dpm e0 hu, h1, h2, q _ fun _ => .bl _⟩
theorem rd_notB (a b : Bool) : RD K rNotB (.bool a) (.bool b) (.bool (!decide (a = b))) := fun H0 H _ v u hv hu Q q => by
  cases hv
  cases hu
  exact ⟨a, b, rfl, rfl, q _ fun _ => .bl _⟩
/-- b in (0, 1) -/
theorem rd_in01 {i : Int} (h : i = 0 ∨ i = 1) : RD K (rIn K false) (.int i) (.tuple [.int 0, .int 1]) (.bool true) := fun H0 H e0 v u hv hu Q q => by
  cases hv
  cases hu with
  | tup hs a =>
    cases a with
    | cons a1 a2 =>
      cases a1
      cases a2 with
      | cons a1 a2 =>
        cases a1
        cases a2
        refine ⟨_, _, rfl, .inr (ex_t e0 hs), rfl, rfl, ?_⟩
        have e : (if false = true then !inV (V.int i) [V.int 0, V.int 1] else inV (V.int i) [V.int 0, V.int 1]) = true := by
          rcases h with rfl | rfl <;> decide
        rw [e]
        exact q _ fun _ => .bl _
end

/-! ## FhStmt -/

/-! ### more of the slots -/
section
variable {K : PySem.W.Frag} {Hb0 Hb H0 H H' : Hp} {σ : L2.St} {G : List Ent}
theorem Rep.toBase (R : Rep K Hb0 Hb H0 H σ G) : Ex H0 (join Hb0 Hb H) := fun p o h => by
  cases q : Hb p with
  | none =>
    rw [join_new q]
    exact R.ex0 p o h
  | some u =>
    rw [join_old (some_ne q)]
    exact R.base p o h (some_ne q)
/-- the list of a slot is written -/
theorem Rep.wr {i : Nat} {ds es : List PyData} {p : Addr} {ys : List V} (R : Rep K Hb0 Hb H0 H σ G) (h : G[i]? = some (.ow ds)) (hp : σ[i]? = some (some (.ref p))) (ha : DpAll K H0 ys es) : Rep K Hb0 Hb H0 (upd H p (.lst ys)) σ (G.set i (.ow es)) := by
  obtain ⟨p', xs, h1, h2, h3, h4, h5⟩ := R.ow i ds h
  have e : p' = p := V.ref.inj (Option.some.inj (Option.some.inj (h1.symm.trans hp)))
  subst e
  refine ⟨fun q u z => ?_, fun q u z => ?_, R.base, by rw [List.length_set]; exact R.len, fun j d z => ?_, fun j fs z => ?_, fun j k fs gs q z z' hj hk => ?_⟩
  · have n : q ≠ p' := by
      intro e
      rw [e, h2] at z
      cases z
    rw [upd_ne n]
    exact R.ex0 q u z
  · have n : q ≠ p' := by
      intro e
      rw [e, h3] at z
      cases z
    rw [upd_ne n]
    exact R.exb q u z
  · rcases get_set z with ⟨rfl, e1⟩ | ⟨n, z'⟩
    · cases e1
    · exact R.im j d z'
  · rcases get_set z with ⟨e0, e1⟩ | ⟨n, z'⟩
    · cases e1
      rw [e0]
      exact ⟨p', ys, h1, h2, h3, upd_same, ha⟩
    · obtain ⟨q, zs, k1, k2, k3, k4, k5⟩ := R.ow j fs z'
      have nq : q ≠ p' := by
        intro e
        rw [e] at k1
        exact n (R.sep j i fs ds p' z' h k1 h1)
      exact ⟨q, zs, k1, k2, k3, by rw [upd_ne nq]; exact k4, k5⟩
  · have a1 : ∃ fs', G[j]? = some (.ow fs') := by
      rcases get_set z with ⟨e0, e1⟩ | ⟨n, z1⟩
      · exact ⟨ds, by rw [e0]; exact h⟩
      · exact ⟨fs, z1⟩
    have a2 : ∃ fs', G[k]? = some (.ow fs') := by
      rcases get_set z' with ⟨e0, e1⟩ | ⟨n, z1⟩
      · exact ⟨ds, by rw [e0]; exact h⟩
      · exact ⟨gs, z1⟩
    obtain ⟨fs', a1⟩ := a1
    obtain ⟨gs', a2⟩ := a2
    exact R.sep j k fs' gs' q a1 a2 hj hk
/-- a slot's own list becomes data -/
theorem Rep.freeze {i : Nat} {ds : List PyData} (R : Rep K Hb0 Hb H0 H σ G) (h : G[i]? = some (.ow ds)) : ∃ J, Ex H0 J ∧ Rep K Hb0 Hb J H σ (G.set i (.im (.list ds))) := by
  obtain ⟨p, xs, h1, h2, h3, h4, h5⟩ := R.ow i ds h
  have e0 : Ex H0 (upd H0 p (.lst xs)) := Ex.new h2
  refine ⟨upd H0 p (.lst xs), e0, fun q u z => ?_, R.exb, fun q u z hb => ?_, by rw [List.length_set]; exact R.len, fun j d z => ?_, fun j fs z => ?_, fun j k fs gs q z z' hj hk => ?_⟩
  · by_cases e : q = p
    · subst e
      rw [upd_same] at z
      rw [← z]
      exact h4
    · rw [upd_ne e] at z
      exact R.ex0 q u z
  · by_cases e : q = p
    · rw [e] at hb
      exact absurd h3 hb
    · rw [upd_ne e] at z
      exact R.base q u z hb
  · rcases get_set z with ⟨e0', e1⟩ | ⟨n, z'⟩
    · cases e1
      rw [e0']
      exact ⟨_, h1, .lst (.inl (.inl upd_same)) (dpam e0 h5)⟩
    · obtain ⟨v, k1, k2⟩ := R.im j d z'
      exact ⟨v, k1, dpm e0 k2⟩
  · rcases get_set z with ⟨rfl, e1⟩ | ⟨n, z'⟩
    · cases e1
    · obtain ⟨q, zs, k1, k2, k3, k4, k5⟩ := R.ow j fs z'
      have nq : q ≠ p := by
        intro e
        rw [e] at k1
        exact n (R.sep j i fs ds p z' h k1 h1)
      exact ⟨q, zs, k1, by rw [upd_ne nq]; exact k2, k3, k4, dpam e0 k5⟩
  · rcases get_set z with ⟨_, e1⟩ | ⟨n, z1⟩
    · cases e1
    · rcases get_set z' with ⟨_, e1⟩ | ⟨n', z2⟩
      · cases e1
      · exact R.sep j k fs gs q z1 z2 hj hk
/-- slots forgotten -/
inductive Wk : List Ent → List Ent → Prop
  | nil : Wk [] []
  | no {e : Ent} {G G' : List Ent} : Wk G G' → Wk (e :: G) (.no :: G')
  | same {e : Ent} {G G' : List Ent} : Wk G G' → Wk (e :: G) (e :: G')
theorem Wk.refl : ∀ G : List Ent, Wk G G
  | [] => .nil
  | _ :: G => .same (Wk.refl G)
theorem Wk.len {G G' : List Ent} (h : Wk G G') : G.length = G'.length := by
  induction h with
  | nil => rfl
  | no _ ih => exact congrArg (· + 1) ih
  | same _ ih => exact congrArg (· + 1) ih
theorem Wk.at {G G' : List Ent} (h : Wk G G') : ∀ (i : Nat) (e : Ent), G'[i]? = some e → e = .no ∨ G[i]? = some e := by
  induction h with
  | nil => intro i e z; cases z
  | no _ ih =>
    intro i e z
    cases i with
    | zero => exact .inl (Option.some.inj z).symm
    | succ i => exact ih i e z
  | same _ ih =>
    intro i e z
    cases i with
    | zero => exact .inr z
    | succ i => exact ih i e z
theorem Rep.weak {G' : List Ent} (R : Rep K Hb0 Hb H0 H σ G) (w : Wk G G') : Rep K Hb0 Hb H0 H σ G' where
  ex0 := R.ex0
  exb := R.exb
  base := R.base
  len := R.len.trans w.len
  im := fun i d z => by
    rcases w.at i _ z with e | e
    · cases e
    · exact R.im i d e
  ow := fun i ds z => by
    rcases w.at i _ z with e | e
    · cases e
    · exact R.ow i ds e
  sep := fun i j ds es p z z' hi hj => by
    rcases w.at i _ z with e | e
    · cases e
    · rcases w.at j _ z' with e' | e'
      · cases e'
      · exact R.sep i j ds es p e e' hi hj
end

/-! ### statements -/
def WN (K : PySem.W.Frag) (Hb0 Hb Hi : Hp) (N : List Ent → Prop) (σ : L2.St) (H : Hp) : Prop := ∃ G H0, N G ∧ Ex Hi H0 ∧ Rep K Hb0 Hb H0 H σ G
def WR (K : PySem.W.Frag) (Hb0 Hb : Hp) (r : PyData) (v : V) (H : Hp) : Prop := Ex Hb H ∧ Dp K (join Hb0 Hb H) v r
def Sat (K : PySem.W.Frag) (ts : TS) (G : List Ent) (N : List Ent → Prop) (r : PyData) : Prop := ∀ (Hb0 Hb H0 H : Hp) (σ : L2.St), Rep K Hb0 Hb H0 H σ G → ∀ D : Ends,
  (∀ σ' H', WN K Hb0 Hb H0 N σ' H' → D.nx σ' H') → (∀ v H', WR K Hb0 Hb r v H' → D.rt v H') → ts D σ H
section
variable {K : PySem.W.Frag} {G : List Ent} {N M : List Ent → Prop} {r d : PyData} {ds : List PyData} {t u : TS} {te tb : TE} {c : TT}
theorem q_seq (h : Sat K t G (fun G' => Sat K u G' N r) r) : Sat K (tSeq t u) G N r := fun Hb0 Hb H0 H σ R D qn qr =>
  h Hb0 Hb H0 H σ R { D with nx := u D } (fun σ' H' ⟨G', J, n, e, R'⟩ => n Hb0 Hb J H' σ' R' D (fun σ2 H2 ⟨G2, J2, n2, e2, R2⟩ => qn σ2 H2 ⟨G2, J2, n2, e.trans e2, R2⟩) qr) qr
theorem s_conseq (h : Sat K t G M r) (hn : ∀ G', M G' → N G') : Sat K t G N r := fun Hb0 Hb H0 H σ R D qn qr =>
  h Hb0 Hb H0 H σ R D (fun σ' H' ⟨G', J, n, e, R'⟩ => qn σ' H' ⟨G', J, hn G' n, e, R'⟩) qr
theorem s_weak {G' : List Ent} (w : Wk G G') (h : Sat K t G' N r) : Sat K t G N r := fun Hb0 Hb H0 H σ R D qn qr => h Hb0 Hb H0 H σ (R.weak w) D qn qr
theorem s_freeze {i : Nat} (h : G[i]? = some (.ow ds)) (k : Sat K t (G.set i (.im (.list ds))) N r) : Sat K t G N r := fun Hb0 Hb H0 H σ R D qn qr => by
  obtain ⟨J, e, R'⟩ := R.freeze h
  exact k Hb0 Hb J H σ R' D (fun σ' H' ⟨G', J', n, e', R2⟩ => qn σ' H' ⟨G', J', n, e.trans e', R2⟩) qr
theorem s_next (h : N G) : Sat K tNext G N r := fun Hb0 Hb H0 H σ R D qn qr => qn σ H ⟨G, H0, h, Ex.refl _, R⟩
theorem s_asg {i : Nat} (h : EvD K te G d) (n : N (G.set i (.im d))) : Sat K (tAsg te (gName i)) G N r := fun Hb0 Hb H0 H σ R D qn qr =>
  h Hb0 Hb H0 H σ R _ fun v H1 e1 hv => qn _ H1 ⟨_, _, n, join_ex R.ex0, (R.ext e1).setIm hv⟩
theorem s_asgF {i : Nat} (h : EvF K te G ds) (n : N (G.set i (.ow ds))) : Sat K (tAsg te (gName i)) G N r := fun Hb0 Hb H0 H σ R D qn qr =>
  h Hb0 Hb H0 H σ R _ fun p xs H1 e1 np hp a => by
    have R1 := R.ext e1
    -- the immutable part without the new list
    have i1 : Ex H0 (off (join H0 H H1) p) := fun q o z => by
      have n : q ≠ p := by
        intro e
        have := R.ex0 q o z
        rw [e, np] at this
        cases this
      rw [off_ne n]
      exact join_ex R.ex0 q o z
    have R2 : Rep K Hb0 Hb (off (join H0 H H1) p) H1 σ G := by
      refine ⟨fun q o z => R1.ex0 q o (off_sub q o z), R1.exb, fun q o z => R1.base q o (off_sub q o z), R1.len, fun i d z => ?_, fun i es z => ?_, R1.sep⟩
      · obtain ⟨v, k1, k2⟩ := R.im i d z
        exact ⟨v, k1, dpm i1 k2⟩
      · obtain ⟨q, zs, k1, k2, k3, k4, k5⟩ := R.ow i es z
        refine ⟨q, zs, k1, ?_, k3, e1 q _ k4, dpam i1 k5⟩
        have nq : q ≠ p := by
          intro e
          rw [e, np] at k4
          cases k4
        rw [off_ne nq, join_old (some_ne k4)]
        exact k2
    refine qn _ H1 ⟨_, _, n, i1, R2.setOw off_same ?_ hp a fun j es q nj z zq => ?_⟩
    · cases hb : Hb p with
      | none => rfl
      | some o =>
        rw [R.exb p o hb] at np
        cases np
    · obtain ⟨q', zs, k1, k2, k3, k4, k5⟩ := R.ow j es z
      have eq : q' = q := V.ref.inj (Option.some.inj (Option.some.inj (k1.symm.trans zq)))
      subst eq
      intro e
      rw [e, np] at k4
      cases k4
theorem s_ret (h : EvD K te G r) : Sat K (tRet te) G N r := fun Hb0 Hb H0 H σ R D qn qr =>
  h Hb0 Hb H0 H σ R _ fun v H1 e1 hv => qr v H1 ⟨R.exb.trans e1, dpm (R.ext e1).toBase hv⟩
theorem s_retF (h : EvF K te G ds) : Sat K (tRet te) G N (.list ds) := s_ret h.toD
/-- return of a slot's own list -/
theorem s_retO {i : Nat} (h : G[i]? = some (.ow ds)) : Sat K (tRet (tVar i)) G N (.list ds) :=
  s_freeze h (s_ret (evd_var (by
    have hl := (List.getElem?_eq_some_iff.mp h).1
    exact List.getElem?_set_self hl)))
theorem s_if {b : Bool} (h : EvT K c G b) (h1 : b = true → Sat K t G N r) (h2 : b = false → Sat K u G N r) : Sat K (tIfS c t u) G N r := fun Hb0 Hb H0 H σ R D qn qr =>
  h Hb0 Hb H0 H σ R _ fun H1 e1 => by
    have qn' : ∀ σ' H', WN K Hb0 Hb (join H0 H H1) N σ' H' → D.nx σ' H' := fun σ' H' ⟨G', J, n, e, R'⟩ => qn σ' H' ⟨G', J, n, (join_ex R.ex0).trans e, R'⟩
    cases b with
    | true =>
      show t D σ H1
      exact h1 rfl Hb0 Hb _ H1 σ (R.ext e1) D qn' qr
    | false =>
      show u D σ H1
      exact h2 rfl Hb0 Hb _ H1 σ (R.ext e1) D qn' qr
theorem s_drop (h : EvD K te G d) (n : N G) : Sat K (tDrop te) G N r := fun Hb0 Hb H0 H σ R D qn qr =>
  h Hb0 Hb H0 H σ R _ fun v H1 e1 hv => qn _ H1 ⟨_, _, n, join_ex R.ex0, R.ext e1⟩
theorem s_app {i : Nat} (ho : G[i]? = some (.ow ds)) (h : EvD K te G d) (hz : ds.length < 100000) (n : N (G.set i (.ow (ds ++ [d])))) : Sat K (tDrop (tBM K "list" rAppend (tVar i) (tCons te tNil))) G N r := fun Hb0 Hb H0 H σ R D qn qr => by
  obtain ⟨p, xs, h1, h2, h3, h4, h5⟩ := R.ow i ds ho
  refine ⟨_, h1, .inl ⟨rfl, xs, .inl (.inl h4)⟩, h Hb0 Hb H0 H σ R _ fun v H1 e1 hv => ?_⟩
  refine ⟨p, xs, v, rfl, rfl, e1 p _ h4, Nat.lt_of_lt_of_le (by rw [dpa_len h5]; exact hz) (by decide), ?_⟩
  exact qn _ _ ⟨_, _, n, join_ex R.ex0, (R.ext e1).wr ho h1 (dpa_app (dpam (join_ex R.ex0) h5) (.cons hv .nil))⟩
theorem s_setitem {i j : Nat} (ho : G[i]? = some (.ow ds)) (h : EvD K te G d) (hi : EvD K tb G (.int (j : Int))) (hj : j < ds.length) (n : N (G.set i (.ow (ds.set j d)))) : Sat K (tAsg te (gSub (tVar i) tb rSetL)) G N r := fun Hb0 Hb H0 H σ R D qn qr => by
  obtain ⟨p, xs, h1, h2, h3, h4, h5⟩ := R.ow i ds ho
  refine h Hb0 Hb H0 H σ R _ fun v H1 e1 hv => ?_
  refine ⟨_, h1, hi Hb0 Hb _ H1 σ (R.ext e1) _ fun w H2 e2 hw => ?_⟩
  cases hw
  refine ⟨p, xs, (j : Int), j, rfl, rfl, (e1.trans e2) p _ h4, Evl.ixN_nat (by rw [dpa_len h5]; exact hj), ?_⟩
  exact qn _ _ ⟨_, _, n, join_ex R.ex0, (R.ext (e1.trans e2)).wr ho h1 (dpa_set (dpm (join_mono e2) hv) j (dpam (join_ex R.ex0) h5))⟩
theorem s_rev {i : Nat} (ho : G[i]? = some (.ow ds)) (n : N (G.set i (.ow ds.reverse))) : Sat K (tDrop (tBM0 K "list" rReverse (tVar i))) G N r := fun Hb0 Hb H0 H σ R D qn qr => by
  obtain ⟨p, xs, h1, h2, h3, h4, h5⟩ := R.ow i ds ho
  refine ⟨_, h1, .inl ⟨rfl, xs, .inl (.inl h4)⟩, p, xs, rfl, rfl, h4, ?_⟩
  exact qn _ _ ⟨_, _, n, Ex.refl _, R.wr ho h1 (dpa_rev h5)⟩
theorem s_aug {i : Nat} {a b : Int} (hx : G[i]? = some (.im (.int a))) (h : EvD K te G (.int b)) (n : N (G.set i (.im (.int (a + b))))) : Sat K (tAug i te (ipI fun i j => i + j)) G N r := fun Hb0 Hb H0 H σ R D qn qr => by
  obtain ⟨v, h1, h2⟩ := R.im i _ hx
  refine ⟨v, h1, h Hb0 Hb H0 H σ R _ fun w H1 e1 hw => ?_⟩
  cases h2
  cases hw
  exact ⟨a, b, rfl, rfl, qn _ _ ⟨_, _, n, join_ex R.ex0, (R.ext e1).setIm (.int _)⟩⟩
theorem s_unpack3 {i j k : Nat} {a b e : PyData} (h : EvD K te G (.tuple [a, b, e])) (n : N (((G.set i (.im a)).set j (.im b)).set k (.im e))) : Sat K (tAsg te (gTup K 3 (gCons (gName i) (gCons (gName j) (gCons (gName k) gNil))))) G N r := fun Hb0 Hb H0 H σ R D qn qr =>
  h Hb0 Hb H0 H σ R _ fun v H1 e1 hv => by
    cases hv with
    | tup hs ha =>
      cases ha with
      | cons k1 ha =>
        cases ha with
        | cons k2 ha =>
          cases ha with
          | cons k3 ha =>
            cases ha
            exact ⟨_, _, rfl, ex_t (join_sub R.ex0 e1) hs, rfl, _, _, rfl, _, _, rfl, _, _, rfl, rfl, qn _ _ ⟨_, _, n, join_ex R.ex0, (((R.ext e1).setIm k1).setIm k2).setIm k3⟩⟩
/-! ### loops -/
theorem wk_rep {Hb0 Hb Hi : Hp} {G' : List Ent} {σ : L2.St} {H : Hp} (h : WN K Hb0 Hb Hi (fun G => Wk G G') σ H) : WN K Hb0 Hb Hi (fun G => G = G') σ H := by
  obtain ⟨G, J, w, e, R⟩ := h
  exact ⟨G', J, rfl, e, R.weak w⟩
/-- one turn, from P i to P (i + 1) -/
theorem turn_of {Hb0 Hb Hi : Hp} {P : Nat → List Ent} {i j : Nat} {x : V} {σ : L2.St} {H : Hp} {D : Ends} {d : PyData} (hs : Sat K t ((P i).set j (.im d)) (fun G => Wk G (P (i + 1))) r) (hx : ∀ J, Ex Hi J → Dp K J x d) (p : WN K Hb0 Hb Hi (fun G => G = P i) σ H) (qr : ∀ v H', WR K Hb0 Hb r v H' → D.rt v H') :
    t { D with nx := WN K Hb0 Hb Hi (fun G => G = P (i + 1)), ct := WN K Hb0 Hb Hi (fun G => G = P (i + 1)), bk := D.nx } (σ.set j (some x)) H := by
  obtain ⟨G', J, rfl, e, R⟩ := p
  exact hs Hb0 Hb J H _ (R.setIm (hx J e)) _ (fun σ' H' w => wk_rep (by
    obtain ⟨G2, J2, n2, e2, R2⟩ := w
    exact ⟨G2, J2, n2, e.trans e2, R2⟩)) qr
theorem s_for1 {ta : TA} {j n : Nat} (h : EvA K ta G [.int (n : Int)]) (hn : n ≤ 100000) (P : Nat → List Ent) (w : Wk G (P 0)) (hs : ∀ i, i < n → Sat K t ((P i).set j (.im (.int (i : Int)))) (fun G => Wk G (P (i + 1))) r) (hd : N (P n)) :
    Sat K (tFor (iRng1 ta) (gName j) t) G N r := fun Hb0 Hb H0 H σ R D qn qr => h Hb0 Hb H0 H σ R _ fun vs H1 e1 hvs => by
  cases hvs with
  | cons a1 a2 =>
    cases a1
    cases a2
    refine ⟨(n : Int), rfl, by omega, by omega, ?_⟩
    have e0 : ((n : Int)).toNat = n := Int.toNat_natCast n
    rw [e0]
    refine for_range (lo := 0) (n := n) (fun i => WN K Hb0 Hb H0 (fun G => G = P i)) (wk_rep ⟨G, _, w, join_ex R.ex0, R.ext e1⟩) (fun i σ' H' hi p => ?_) (fun σ' H' p => ?_)
    · refine turn_of (hs i hi) (fun J _ => ?_) p qr
      rw [Int.zero_add]
      exact .int _
    · obtain ⟨G', J, rfl, e, R'⟩ := p
      exact qn σ' H' ⟨_, J, hd, e, R'⟩
theorem s_for2 {ta : TA} {j lo n : Nat} (h : EvA K ta G [.int (lo : Int), .int (n : Int)]) (hn : lo ≤ 100000 ∧ n ≤ 100000) (P : Nat → List Ent) (w : Wk G (P 0)) (hs : ∀ i, lo + i < n → Sat K t ((P i).set j (.im (.int ((lo + i : Nat) : Int)))) (fun G => Wk G (P (i + 1))) r) (hd : N (P (n - lo))) :
    Sat K (tFor (iRng2 ta) (gName j) t) G N r := fun Hb0 Hb H0 H σ R D qn qr => h Hb0 Hb H0 H σ R _ fun vs H1 e1 hvs => by
  cases hvs with
  | cons a1 a2 =>
    cases a2 with
    | cons b1 b2 =>
      cases a1
      cases b1
      cases b2
      refine ⟨(lo : Int), (n : Int), rfl, ⟨by omega, by omega, by omega, by omega⟩, ?_⟩
      have e0 : ((n : Int) - (lo : Int)).toNat = n - lo := by omega
      rw [e0]
      refine for_range (lo := (lo : Int)) (n := n - lo) (fun i => WN K Hb0 Hb H0 (fun G => G = P i)) (wk_rep ⟨G, _, w, join_ex R.ex0, R.ext e1⟩) (fun i σ' H' hi p => ?_) (fun σ' H' p => ?_)
      · refine turn_of (hs i (by omega)) (fun J _ => ?_) p qr
        rw [Int.natCast_add]
        exact .int _
      · obtain ⟨G', J, rfl, e, R'⟩ := p
        exact qn σ' H' ⟨_, J, hd, e, R'⟩
/-- range(n - 1, -1, -1) -/
theorem s_for3 {ta : TA} {j n : Nat} (h : EvA K ta G [.int ((n : Int) - 1), .int (-1), .int (-1)]) (hn : n ≤ 100000) (P : Nat → List Ent) (w : Wk G (P 0)) (hs : ∀ i, i < n → Sat K t ((P i).set j (.im (.int ((n - 1 - i : Nat) : Int)))) (fun G => Wk G (P (i + 1))) r) (hd : N (P n)) :
    Sat K (tFor (iRng3 ta) (gName j) t) G N r := fun Hb0 Hb H0 H σ R D qn qr => h Hb0 Hb H0 H σ R _ fun vs H1 e1 hvs => by
  cases hvs with
  | cons a1 a2 =>
    cases a2 with
    | cons b1 b2 =>
      cases b2 with
      | cons c1 c2 =>
        cases a1
        cases b1
        cases c1
        cases c2
        have e0 : (((n : Int) - 1) - (-1)).toNat = n := by omega
        refine ⟨(n : Int) - 1, -1, -1, n, rfl, ?_, ?_⟩
        · have := RgC.neg (i := (n : Int) - 1) (j := -1) (by omega) (by omega) (by omega) (by omega)
          rw [e0] at this
          exact this
        · refine for_rangeC (lo := (n : Int) - 1) (c := -1) (n := n) (fun i => WN K Hb0 Hb H0 (fun G => G = P i)) (wk_rep ⟨G, _, w, join_ex R.ex0, R.ext e1⟩) (fun i σ' H' hi p => ?_) (fun σ' H' p => ?_)
          · refine turn_of (hs i hi) (fun J _ => ?_) p qr
            have e : (n : Int) - 1 + (i : Int) * (-1) = ((n - 1 - i : Nat) : Int) := by omega
            rw [e]
            exact .int _
          · obtain ⟨G', J, rfl, e, R'⟩ := p
            exact qn σ' H' ⟨_, J, hd, e, R'⟩
theorem s_forT {tl : TE} {j : Nat} (h : EvD K tl G (.tuple ds)) (P : Nat → List Ent) (w : Wk G (P 0)) (hs : ∀ i d, ds[i]? = some d → Sat K t ((P i).set j (.im d)) (fun G => Wk G (P (i + 1))) r) (hd : N (P ds.length)) :
    Sat K (tFor (iTup K tl) (gName j) t) G N r := fun Hb0 Hb H0 H σ R D qn qr => h Hb0 Hb H0 H σ R _ fun v H1 e1 hv => by
  cases hv with
  | @tup a xs _ ht ha =>
    refine ⟨a, rfl, ⟨xs, ex_t (join_sub R.ex0 e1) ht⟩, ?_⟩
    refine for_tup (xs := xs) (fun i => WN K Hb0 Hb (join H0 H H1) (fun G => G = P i)) (wk_rep ⟨G, _, w, Ex.refl _, R.ext e1⟩) (fun i σ' H' _ p => ?_) (fun i x σ' H' hx p => ?_) (fun σ' H' p => ?_)
    · obtain ⟨G', J, rfl, e, R'⟩ := p
      exact ex_t (e.trans R'.ex0) ht
    · obtain ⟨d, h1, h2⟩ := dpa_get' ha hx
      exact turn_of (hs i d h1) (fun J e => dpm e h2) p qr
    · obtain ⟨G', J, rfl, e, R'⟩ := p
      refine qn σ' H' ⟨_, J, ?_, (join_ex R.ex0).trans e, R'⟩
      rw [dpa_len ha]
      exact hd
theorem s_while (n : Nat) (P : Nat → List Ent) (w : Wk G (P 0)) (hc : ∀ i, i ≤ n → EvT K c (P i) (decide (i < n))) (hs : ∀ i, i < n → Sat K t (P i) (fun G => Wk G (P (i + 1))) r) (hd : N (P n)) : Sat K (tWhile c t) G N r := fun Hb0 Hb H0 H σ R D qn qr => by
  refine ⟨fun m σ' H' => ∃ i, i ≤ n ∧ m = n - i ∧ WN K Hb0 Hb H0 (fun G => G = P i) σ' H', ⟨n, 0, Nat.zero_le _, rfl, wk_rep ⟨G, _, w, Ex.refl _, R⟩⟩, ?_⟩
  rintro m σ' H' ⟨i, hi, rfl, G', J, rfl, e, R'⟩
  refine hc i hi Hb0 Hb J H' σ' R' _ fun H1 e1 => ?_
  by_cases hlt : i < n
  · rw [if_pos (decide_eq_true hlt)]
    refine ⟨WN K Hb0 Hb H0 (fun G => G = P (i + 1)), fun σ2 H2 w2 => ⟨n - (i + 1), by omega, i + 1, hlt, rfl, w2⟩, ?_⟩
    exact hs i hlt Hb0 Hb _ H1 σ' (R'.ext e1) _ (fun σ2 H2 w2 => wk_rep (by
      obtain ⟨G2, J2, n2, e2, R2⟩ := w2
      exact ⟨G2, J2, n2, (e.trans (join_ex R'.ex0)).trans e2, R2⟩)) qr
  · rw [if_neg (by rw [decide_eq_false hlt]; exact Bool.false_ne_true)]
    have ei : i = n := by omega
    subst ei
    exact qn σ' H1 ⟨_, _, hd, e.trans (join_ex R'.ex0), R'.ext e1⟩
end

/-! ### comprehensions -/
def PvLc (K : PySem.W.Frag) (Hb0 Hb J1 H1 : Hp) (σ : L2.St) (G : List Ent) (D : Addr) (ds : List PyData) (H' : Hp) : Prop :=
  Ex H1 H' ∧ ∃ J acc, Ex J1 J ∧ J D = none ∧ (∀ q o, J q = some o → H1 q ≠ none → J1 q = some o) ∧ Rep K Hb0 Hb J H' σ G ∧ H' D = some (.lst acc) ∧ DpAll K J acc ds
section
variable {K : PySem.W.Frag} {G : List Ent} {tt : TT} {te : TE}
theorem lc_own {Hb0 Hb J1 H1 : Hp} {σ : L2.St} {D : Addr} (R1 : Rep K Hb0 Hb J1 H1 σ G) (hD : H1 D = none) : ∀ (i : Nat) (ds : List PyData) (q : Addr), G[i]? = some (.ow ds) → σ[i]? = some (some (.ref q)) → q ≠ D := fun i ds q z zq => by
  obtain ⟨q', zs, k1, k2, k3, k4, k5⟩ := R1.ow i ds z
  have eq : q' = q := V.ref.inj (Option.some.inj (Option.some.inj (k1.symm.trans zq)))
  subst eq
  intro e
  rw [e, hD] at k4
  cases k4
theorem lc_first {Hb0 Hb J1 H1 : Hp} {σ : L2.St} {D : Addr} (R1 : Rep K Hb0 Hb J1 H1 σ G) (hD : H1 D = none) : PvLc K Hb0 Hb J1 H1 σ G D [] (upd H1 D (.lst [])) := by
  have hJ : J1 D = none := fresh_back R1.ex0 hD
  have hb : Hb D = none := fresh_back R1.exb hD
  exact ⟨Ex.new hD, J1, [], Ex.refl _, hJ, fun _ _ h _ => h, R1.out hJ hb (lc_own R1 hD), upd_same, .nil⟩
theorem lc_step {Hb0 Hb J1 H1 H' : Hp} {σ : L2.St} {D : Addr} {ds : List PyData} {e d : PyData} {x : V} {j : Nat} {b : Bool} (R1 : Rep K Hb0 Hb J1 H1 σ G) (hD : H1 D = none) (p : PvLc K Hb0 Hb J1 H1 σ G D ds H') (hx : Dp K J1 x e)
    (ht : EvT K tt (G.set j (.im e)) b) (he : b = true → EvD K te (G.set j (.im e)) d) (hz : ds.length < 100000) :
    gName j x (wipe σ [j]) H' fun σ2 H2 => wipe σ2 [j] = wipe σ [j] ∧ tt σ2 H2 fun b' H3 =>
      if b' = true then te σ2 H3 fun y H4 => ∃ acc, H4 D = some (.lst acc) ∧ acc.length < sizeLine ∧ PvLc K Hb0 Hb J1 H1 σ G D (if b = true then ds ++ [d] else ds) (upd H4 D (.lst (acc ++ [y]))) else PvLc K Hb0 Hb J1 H1 σ G D (if b = true then ds ++ [d] else ds) H3 := by
  obtain ⟨eH, J, acc, eJ, hJ, hold, R, hacc, ha⟩ := p
  have hb : Hb D = none := fresh_back R1.exb hD
  have es : (wipe σ [j]).set j (some x) = σ.set j (some x) := List.set_set ..
  show wipe ((wipe σ [j]).set j (some x)) [j] = wipe σ [j] ∧ tt ((wipe σ [j]).set j (some x)) H' _
  rw [es]
  refine ⟨List.set_set .., ?_⟩
  have R2 := R.setIm (i := j) (dpm eJ hx)
  refine ht Hb0 Hb J H' _ R2 _ fun H3 e3 => ?_
  have old : ∀ {H4 : Hp}, ∀ q o, join J H' H4 q = some o → H1 q ≠ none → J1 q = some o := fun q o z hq => by
    rw [join_old (ex_ne eH hq)] at z
    exact hold q o z hq
  cases b with
  | true =>
    rw [if_pos rfl, if_pos rfl]
    refine he rfl Hb0 Hb _ H3 _ (R2.ext e3) _ fun y H4 e4 hy => ?_
    have hD4 : H4 D = some (.lst acc) := e4 D _ (e3 D _ hacc)
    have jD : join J H' H4 D = none := by
      rw [join_old (some_ne hacc)]
      exact hJ
    refine ⟨acc, hD4, Nat.lt_of_lt_of_le (by rw [dpa_len ha]; exact hz) (by decide), fun q o z => ?_, join J H' H4, acc ++ [y], eJ.trans (join_ex R.ex0), jD, old, (R.ext (e3.trans e4)).out jD hb (lc_own R1 hD), upd_same, dpa_app (dpam (join_ex R.ex0) ha) (.cons (dpm (join_join' e3 e4) hy) .nil)⟩
    have n : q ≠ D := by
      intro e
      rw [e, hD] at z
      cases z
    rw [upd_ne n]
    exact e4 q o (e3 q o (eH q o z))
  | false =>
    rw [if_neg Bool.false_ne_true, if_neg Bool.false_ne_true]
    exact ⟨eH.trans e3, join J H' H3, acc, eJ.trans (join_ex R.ex0), by rw [join_old (some_ne hacc)]; exact hJ, old, R.ext e3, e3 D _ hacc, dpam (join_ex R.ex0) ha⟩
theorem lc_last {Hb0 Hb H0 H H1 H' : Hp} {σ : L2.St} {D : Addr} {ds : List PyData} {Q : VK} (e0 : Ex H0 H) (e1 : Ex H H1) (hD : H1 D = none) (p : PvLc K Hb0 Hb (join H0 H H1) H1 σ G D ds H')
    (q : ∀ p xs H', Ex H H' → H p = none → H' p = some (.lst xs) → DpAll K (off (join H0 H H') p) xs ds → Q (.ref p) H') : Q (.ref D) H' := by
  obtain ⟨eH, J, acc, eJ, hJ, hold, R, hacc, ha⟩ := p
  refine q D acc H' (e1.trans eH) (fresh_back e1 hD) hacc (dpam (fun a o z => ?_) ha)
  have n : a ≠ D := by
    intro e
    rw [e, hJ] at z
    cases z
  rw [off_ne n]
  cases r : H a with
  | none =>
    rw [join_new r]
    exact R.ex0 a o z
  | some w =>
    have z2 := hold a o z (ex_ne e1 (some_ne r))
    rw [join_old (some_ne r)] at z2
    rw [join_old (some_ne r)]
    exact z2
theorem filt_step {α : Type} {l : List α} {i : Nat} {a : α} (b : α → Bool) (f : α → PyData) (h : l[i]? = some a) : (if b a = true then (List.filter b (l.take i)).map f ++ [f a] else (List.filter b (l.take i)).map f) = (List.filter b (l.take (i + 1))).map f := by
  have e : l.take (i + 1) = l.take i ++ [a] := by
    rw [List.take_add_one, h]
    rfl
  rw [e, List.filter_append, List.map_append, List.filter_cons]
  cases hb : b a with
  | true => rfl
  | false =>
    show _ = _ ++ []
    rw [List.append_nil]
    rfl
theorem filt_len {α : Type} (l : List α) (i : Nat) (b : α → Bool) (f : α → PyData) : ((List.filter b (l.take i)).map f).length ≤ l.length := by
  rw [List.length_map]
  have h1 := List.length_filter_le b (l.take i)
  have h2 := List.length_take_le i l
  rw [List.length_take] at *
  omega
theorem evf_lcL {α : Type} {tl : TE} {j : Nat} {l : List α} (enc : α → PyData) (b : α → Bool) (f : α → PyData) (h : EvO K tl G (l.map enc)) (hz : l.length < 100000)
    (ht : ∀ a ∈ l, EvT K tt (G.set j (.im (enc a))) (b a)) (he : ∀ a ∈ l, b a = true → EvD K te (G.set j (.im (enc a))) (f a)) : EvF K (tLc (iList K tl) (gName j) tt te [j]) G ((List.filter b l).map f) := fun Hb0 Hb H0 H σ R Q q =>
  h Hb0 Hb H0 H σ R _ fun p xs H1 e1 hs ha => by
    refine ⟨p, rfl, ⟨xs, hs⟩, fun D hD => ?_⟩
    have R1 := R.ext e1
    have lenx : xs.length = l.length := by
      rw [dpa_len ha, List.length_map]
    refine lc_list (xs := xs) (fun i => PvLc K Hb0 Hb (join H0 H H1) H1 σ G D ((List.filter b (l.take i)).map f)) (by rw [List.take_zero]; exact lc_first R1 hD) (fun i H' _ pv => ex_l pv.1 hs) (fun i x H' hx pv => ?_) (fun H' pv => ?_)
    · obtain ⟨dd, h1, h2⟩ := dpa_get' ha hx
      rw [List.getElem?_map] at h1
      cases hl : l[i]? with
      | none =>
        rw [hl] at h1
        cases h1
      | some a =>
        rw [hl] at h1
        have ed : enc a = dd := Option.some.inj h1
        subst ed
        have hm : a ∈ l := List.mem_of_getElem? hl
        have st := lc_step (j := j) R1 hD pv h2 (ht a hm) (he a hm) (Nat.lt_of_le_of_lt (filt_len l i b f) hz)
        rw [filt_step b f hl] at st
        exact st
    · rw [lenx, List.take_length] at pv
      exact lc_last R.ex0 e1 hD pv q
theorem evf_lcR {ta : TA} {j n : Nat} (b : Nat → Bool) (f : Nat → PyData) (h : EvA K ta G [.int (n : Int)]) (hz : n < 100000)
    (ht : ∀ i, i < n → EvT K tt (G.set j (.im (.int (i : Int)))) (b i)) (he : ∀ i, i < n → b i = true → EvD K te (G.set j (.im (.int (i : Int)))) (f i)) : EvF K (tLc (iRng1 ta) (gName j) tt te [j]) G ((List.filter b (List.range n)).map f) := fun Hb0 Hb H0 H σ R Q q =>
  h Hb0 Hb H0 H σ R _ fun vs H1 e1 hvs => by
    cases hvs with
    | cons a1 a2 =>
      cases a1
      cases a2
      refine ⟨(n : Int), rfl, by omega, by omega, fun D hD => ?_⟩
      have e0 : ((n : Int)).toNat = n := Int.toNat_natCast n
      rw [e0]
      have R1 := R.ext e1
      refine lc_range (lo := 0) (n := n) (fun i => PvLc K Hb0 Hb (join H0 H H1) H1 σ G D ((List.filter b ((List.range n).take i)).map f)) (by rw [List.take_zero]; exact lc_first R1 hD) (fun i H' hi pv => ?_) (fun H' pv => ?_)
      · have hl : (List.range n)[i]? = some i := by
          rw [List.getElem?_range hi]
        have st := lc_step (j := j) (x := V.int ((0 : Int) + (i : Int))) R1 hD pv (by rw [Int.zero_add]; exact .int _) (ht i hi) (he i hi) (Nat.lt_of_le_of_lt (filt_len (List.range n) i b f) (by rw [List.length_range]; exact hz))
        rw [filt_step b f hl] at st
        exact st
      · have en : (List.range n).take n = List.range n := List.take_of_length_le (by rw [List.length_range]; exact Nat.le_refl _)
        rw [en] at pv
        exact lc_last R.ex0 e1 hD pv q
theorem evt_yes : EvT K tYes G true := fun Hb0 Hb H0 H σ R Q q => q H (Ex.refl H)
theorem filt_all {α : Type} (l : List α) : List.filter (fun _ => true) l = l := List.filter_eq_self.mpr fun _ _ => rfl
/-- without a test -/
theorem evf_lcL1 {α : Type} {tl : TE} {j : Nat} {l : List α} (enc : α → PyData) (f : α → PyData) (h : EvO K tl G (l.map enc)) (hz : l.length < 100000)
    (he : ∀ a ∈ l, EvD K te (G.set j (.im (enc a))) (f a)) : EvF K (tLc (iList K tl) (gName j) tYes te [j]) G (l.map f) := by
  have := evf_lcL (te := te) (tt := tYes) (j := j) enc (fun _ => true) f h hz (fun _ _ => evt_yes) fun a ha _ => he a ha
  rw [filt_all] at this
  exact this
theorem evf_lcR1 {ta : TA} {j n : Nat} (f : Nat → PyData) (h : EvA K ta G [.int (n : Int)]) (hz : n < 100000)
    (he : ∀ i, i < n → EvD K te (G.set j (.im (.int (i : Int)))) (f i)) : EvF K (tLc (iRng1 ta) (gName j) tYes te [j]) G ((List.range n).map f) := by
  have := evf_lcR (te := te) (tt := tYes) (j := j) (fun _ => true) f h hz (fun _ _ => evt_yes) fun a ha _ => he a ha
  rw [filt_all] at this
  exact this
end

/-! ### a def keeps its promise -/
theorem dpa_map {K : PySem.W.Frag} {H : Hp} {vs : List V} {ds : List PyData} (a : DpAll K H vs ds) (m : Nat) {i : Nat} {d : PyData} (h : (ds.map Ent.im ++ List.replicate m Ent.no)[i]? = some (.im d)) : ∃ v, (vs.map some ++ List.replicate m none)[i]? = some (some v) ∧ Dp K H v d := by
  by_cases hi : i < ds.length
  · rw [List.getElem?_append_left (by rw [List.length_map]; exact hi), List.getElem?_map] at h
    cases q : ds[i]? with
    | none =>
      rw [q] at h
      cases h
    | some e =>
      rw [q] at h
      have ed : e = d := Ent.im.inj (Option.some.inj h)
      subst ed
      obtain ⟨v, h1, h2⟩ := dpa_get a q
      refine ⟨v, ?_, h2⟩
      rw [List.getElem?_append_left (by rw [List.length_map, dpa_len a]; exact hi), List.getElem?_map, h1]
      rfl
  · rw [List.getElem?_append_right (by rw [List.length_map]; omega)] at h
    have := List.mem_of_getElem? h
    have e := List.eq_of_mem_replicate this
    cases e
theorem no_ow {ds : List PyData} {m i : Nat} {es : List PyData} (h : (ds.map Ent.im ++ List.replicate m Ent.no)[i]? = some (.ow es)) : False := by
  have hm := List.mem_of_getElem? h
  rcases List.mem_append.mp hm with z | z
  · obtain ⟨d, _, e⟩ := List.mem_map.mp z
    cases e
  · have e := List.eq_of_mem_replicate z
    cases e
def entry (N : List Str) (ds : List PyData) : List Ent := ds.map Ent.im ++ List.replicate (N.length - ds.length) Ent.no
theorem fn_ok {P : Program} {w : World} {K : PySem.W.Frag} {mg : Str → Option Value} {base : Heap} {x qual : Str} {st : Stmt} {f : Addr} {fd : FuncData} {N ps : List Str} {k : Nat} {S : List PyData → PyData → Prop} {t : TS}
    (F : Fun K x qual st f fd) (sc : FnScope N ps (defScope st)) (hlen : ∀ ds r, S ds r → ds.length = ps.length) (hN : ps.length ≤ N.length)
    (hps : ∀ (cdv : Value) (A : Around) (outer : List Env) (s : Shared) (H : Hp) (E : XK), Room k (A.deeper (envOfC qual (defScope st) s.heap.objs.size f cdv)) → PSs (cxOf CX0 P w K mg base N qual (defScope st) f cdv A outer s H E).nox (defBody st) t)
    (hsat : ∀ ds r, S ds r → Sat K t (entry N ds) (fun _ => r = .none) r) : FnOk P w K mg base CX0 (k + 1) f fd ps (FnSp K S) := by
  refine F.ok sc (fun vs H Q E h => ?_) (fun cdv A outer s H vs Q E hr h => ⟨t, hps cdv A outer s H E hr, ?_⟩)
  · obtain ⟨H0, ds, r, e, a, hS, q⟩ := h
    rw [dpa_len a]
    exact hlen ds r hS
  · obtain ⟨H0, ds, r, e, a, hS, q⟩ := h
    have lv := dpa_len a
    have R : Rep K H0 H H0 H (L2.start N vs) (entry N ds) := by
      refine ⟨e, Ex.refl _, fun p o z _ => z, ?_, fun i d z => ?_, fun i es z => (no_ow z).elim, fun i j es _ _ z => (no_ow z).elim⟩
      · unfold L2.start entry
        rw [List.length_append, List.length_append, List.length_map, List.length_map, List.length_replicate, List.length_replicate, lv]
      · unfold L2.start
        rw [lv]
        exact dpa_map a _ z
    refine hsat ds r hS H0 H H0 H _ R _ (fun σ' H' w => ?_) (fun v H' w => q v H' w.1 w.2)
    obtain ⟨G', J, rn, _, R'⟩ := w
    have rn' : r = .none := rn
    subst rn'
    exact q .non H' R'.exb .non

/-! ## FhMir -/

abbrev xAdd : R2 := rI0 fun i j => .int (i + j)
abbrev xSub : R2 := rI0 fun i j => .int (i - j)
abbrev xMul : R2 := rI CMul fun i j => .int (i * j)
abbrev xDiv : R2 := rI CDivN fun i j => .int (i.fdiv j)
abbrev xMod : R2 := rI (fun _ j => j ≠ 0) fun i j => .int (i.fmod j)
abbrev xPow : R2 := rI CPow fun i j => .int (i ^ j.toNat)
abbrev xShl : R2 := rI CPow fun i j => .int (i * 2 ^ j.toNat)
abbrev xShr : R2 := rI (fun _ j => 0 ≤ j) fun i j => .int (i / 2 ^ j.toNat)
abbrev xAnd : R2 := rI0 fun i j => .int (Builtin.bitAnd i j)
abbrev xXor : R2 := rI0 fun i j => .int (Builtin.bitXor i j)
abbrev xLt : R2 := rI0 fun i j => .bl (decide (i < j))
abbrev xLe : R2 := rI0 fun i j => .bl (decide (i ≤ j))
abbrev xGt : R2 := rI0 fun i j => .bl (decide (j < i))
abbrev xGe : R2 := rI0 fun i j => .bl (decide (j ≤ i))
abbrev xNeg : V → Hp → VK → Prop := rU fun i => .int (-i)

/-! ### the mirror -/
/-- a seal of degree r -/
structure Sl (r g : Nat) : Prop where
  r1 : 1 ≤ r
  r8 : r ≤ 8
  lo : 2 ^ r ≤ g
  hi : g < 2 ^ (r + 1)
  odd : g % 2 = 1
def red (r g x : Nat) : Nat := if x / 2 ^ r % 2 = 1 then x ^^^ g else x
/-- the rests of x ** k -/
def pw (r g : Nat) : Nat → Nat
  | 0 => 1
  | k + 1 => red r g (2 * pw r g k)
/-- the rest of a row -/
def rst (r g : Nat) : List Nat → Nat
  | [] => 0
  | b :: bs => red r g ((2 * rst r g bs) ^^^ b)
def omin : Option Int → Option Int → Option Int
  | none, y => y
  | some a, none => some a
  | some a, some b => some (if b < a then b else a)
def oadd (o : Option Int) (c : Int) : Option Int := o.map (· + c)
/-- the least price of a bit and the rest behind it -/
def cmb (c0 c1 : Int) (f : Nat → Option Int) (p s : Nat) : Option Int := omin (oadd (f s) c0) (oadd (f (s ^^^ p)) c1)
def fin0 (s : Nat) : Option Int := if s = 0 then some 0 else none
def bk (c0 c1 : Nat → Int) (P : Nat → Nat) (n : Nat) : Nat → Nat → Option Int
  | 0, s => fin0 s
  | j + 1, s => cmb (c0 (n - (j + 1))) (c1 (n - (j + 1))) (bk c0 c1 P n j) (P (n - (j + 1))) s
/-- the least prices of the rest, at place k from state s -/
def tab (c0 c1 : Nat → Int) (P : Nat → Nat) (n k : Nat) (s : Nat) : Option Int := bk c0 c1 P n (n - k) s
/-- the walk: its state behind i steps from place k in state s, a bit told by place and state -/
def wst (bit : Nat → Nat → Nat) (P : Nat → Nat) (k s : Nat) : Nat → Nat
  | 0 => s
  | i + 1 => wst bit P k s i ^^^ (P (k + i) * bit (k + i) (wst bit P k s i))
/-- the bit that the walk takes by a table -/
def tbit (c0 : Nat → Int) (T : Nat → Nat → Option Int) (k s : Nat) : Nat := match T (k + 1) s with
  | none => 1
  | some x => if some (x + c0 k) = T k s then 0 else 1
/-- the walk's bits -/
def wbits (bit : Nat → Nat → Nat) (P : Nat → Nat) (k s i : Nat) : List Nat := (List.range i).map fun j => bit (k + j) (wst bit P k s j)
/-- state and price of a row of bits ahead of a place -/
def rowst (P row : Nat → Nat) : Nat → Nat
  | 0 => 0
  | k + 1 => rowst P row k ^^^ (P k * row k)
def cst (c0 c1 : Nat → Int) (k b : Nat) : Int := if b = 0 then c0 k else c1 k
def tot (c0 c1 : Nat → Int) (row : Nat → Nat) : Nat → Int
  | 0 => 0
  | k + 1 => tot c0 c1 row k + cst c0 c1 k (row k)
/-- the least price of a row that differs from the told one first at place k -/
def oth (c0 c1 : Nat → Int) (P : Nat → Nat) (T : Nat → Nat → Option Int) (row : Nat → Nat) (k : Nat) : Option Int :=
  (T (k + 1) (rowst P row k ^^^ (P k * (1 - row k)))).map fun x => tot c0 c1 row k + cst c0 c1 k (1 - row k) + x
/-- the weight of a pattern that begins at place k -/
def wgt (P : Nat → Nat) (T : Nat → Nat → Option Int) (k : Nat) : Option Int := oadd (T (k + 1) (P k)) 1
/-- W is the least of the weights, st the last place that has it -/
structure Lst (n : Nat) (f : Nat → Option Int) (W : Int) (st : Nat) : Prop where
  lt : st < n
  at_ : f st = some W
  low : ∀ k w, k < n → f k = some w → W ≤ w
  last : ∀ k, k < n → f k = some W → k ≤ st
structure Low (n : Nat) (f : Nat → Option Int) (W : Int) : Prop where
  ex : ∃ k, k < n ∧ f k = some W
  low : ∀ k w, k < n → f k = some w → W ≤ w
def c00 : Nat → Int := fun _ => 0
def c11 : Nat → Int := fun _ => 1
/-- the pattern of the least weight -/
def lpat (P : Nat → Nat) (T : Nat → Nat → Option Int) (n st : Nat) : List Nat := List.replicate st 0 ++ [1] ++ wbits (tbit c00 T) P (st + 1) (P st) (n - (st + 1))
/-- the profile's table: one place more -/
def pup (P : Nat → Nat) (k : Nat) (f : Nat → Option Int) (s : Nat) : Option Int := match f (s ^^^ P k) with
  | none => f s
  | some w => match f s with
    | none => some (w + 1)
    | some v => if w + 1 < v then some (w + 1) else some v
def pf0 (s : Nat) : Option Int := if s = 1 then some 1 else none
def pfl (P : Nat → Nat) : Nat → Nat → Option Int
  | 0 => pf0
  | i + 1 => pup P (i + 1) (pfl P i)
/-- a step of the profile is told -/
def pnew (steps : List (Int × Int)) (k : Nat) (o : Option Int) : List (Int × Int) := match o with
  | none => steps
  | some w => match steps.getLast? with
    | none => steps ++ [((k : Int) + 1, w)]
    | some p => if w < p.2 then steps ++ [((k : Int) + 1, w)] else steps
def prf (P : Nat → Nat) : Nat → List (Int × Int)
  | 0 => []
  | i + 1 => pnew (prf P i) (i + 1) (pfl P (i + 1) 0)
/-- prices of 0 and 1 by what is received -/
def q0 (rv : Nat → Option Int) (k : Nat) : Int := if rv k = some 1 then 1 else 0
def q1 (rv : Nat → Option Int) (k : Nat) : Int := if rv k = some 0 then 1 else 0
/-! the draws -/
def dig (a : Int) : Nat → List Int × Int
  | 0 => ([], a)
  | i + 1 => if 0 < (dig a i).2 then ((dig a i).1 ++ [(dig a i).2.fmod 65536], (dig a i).2.fdiv 65536) else dig a i
def mixed (a : Int) (k : Nat) : Int := ((((a * 48271 + ((k : Int) + 1) * 69621).fmod 2147483647) * 16807 + 11 * (k : Int) + 5)).fmod 2147483629
def draw1 (k : Nat) (v : Int) : List Int :=
  if 10 ^ 18 ≤ (if v < 0 then -v else v) then (dig (if v < 0 then -v else v) 60).1
  else [(mixed (if v < 0 then -v else v) k).fmod 65536, ((mixed (if v < 0 then -v else v) k).fdiv 65536).fmod 32768]
def draws (ns : List Int) : Nat → List Int
  | 0 => []
  | k + 1 => draws ns k ++ draw1 k (ns.getD k 0)
def mval (xs : List Int) (k : Nat) : Int := if 0 < xs.length then xs.getD (k % xs.length) 0 else 0
def mixf (xs : List Int) (k : Nat) (m : Nat) : Nat := if k < xs.length then ((mval xs k).fmod m).toNat else (((mval xs k * 7919 + (k : Int) * 104729).fdiv 3).fmod m).toNat
/-! the received row -/
def rrow0 (xs : List Int) (r k : Nat) : Nat := if k < r then 0 else mixf xs (20 + (k - r)) 2
def rrest (P : Nat → Nat) (row : Nat → Nat) (r : Nat) : Nat → Nat
  | 0 => 0
  | i + 1 => rrest P row r i ^^^ (P (r + i) * row (r + i))
def rrow1 (xs : List Int) (P : Nat → Nat) (r n k : Nat) : Nat := if k < r then rrest P (rrow0 xs r) r (n - r) / 2 ^ k % 2 else rrow0 xs r k
def rways (xs : List Int) : Nat := [40, 12, 5, 2].getD (mixf xs 5 4) 2
def rcv (xs : List Int) (P : Nat → Nat) (r n k : Nat) : Option Int :=
  if mixf xs (400 + k) (rways xs) < 2 then (if mixf xs (400 + k) (rways xs) * (if mixf xs (401 + k) 3 = 1 then 1 else 0) = 0 then some (1 - (rrow1 xs P r n k : Int)) else none)
  else some (rrow1 xs P r n k : Int)

/-! ### how data is told -/
abbrev iD (n : Nat) : PyData := .int (n : Int)
def powD (P : Nat → Nat) (n : Nat) : PyData := .list ((List.range n).map fun k => iD (P k))
def layD (r : Nat) (f : Nat → Option Int) : PyData := .list ((List.range (2 ^ r)).map fun s => oD (f s))
def papD (r : Nat) (T : Nat → Nat → Option Int) (n : Nat) : PyData := .list ((List.range (n + 1)).map fun k => layD r (T k))
def priD (c0 c1 : Nat → Int) (n : Nat) : PyData := .list ((List.range n).map fun k => .tuple [.int (c0 k), .int (c1 k)])
def recD (rv : Nat → Option Int) (n : Nat) : PyData := .list ((List.range n).map fun k => oD (rv k))
def rowD (row : Nat → Nat) (n : Nat) : PyData := .list ((List.range n).map fun k => iD (row k))
def natsD (l : List Nat) : PyData := .list (l.map iD)
def stpD (l : List (Int × Int)) : PyData := .list (l.map fun p => .tuple [.int p.1, .int p.2])

/-! ### what the defs promise -/
def Bit (rv : Nat → Option Int) : Prop := ∀ k, rv k = none ∨ rv k = some 0 ∨ rv k = some 1
abbrev Wtab (r g n : Nat) : Nat → Nat → Option Int := tab c00 c11 (pw r g) n
abbrev Qtab (r g n : Nat) (rv : Nat → Option Int) : Nat → Nat → Option Int := tab (q0 rv) (q1 rv) (pw r g) n
/-- the told row -/
def trow (r g n : Nat) (rv : Nat → Option Int) (k : Nat) : Nat := tbit (q0 rv) (Qtab r g n rv) k (wst (tbit (q0 rv) (Qtab r g n rv)) (pw r g) 0 0 k)
abbrev Rel : Type := List PyData → PyData → Prop
def S_degree : Rel := fun ds d => ∃ r g, Sl r g ∧ ds = [iD g] ∧ d = iD r
def S_rest_of : Rel := fun ds d => ∃ r g bs, Sl r g ∧ (∀ b ∈ bs, b < 2) ∧ bs.length ≤ 1000 ∧ ds = [iD g, natsD bs] ∧ d = iD (rst r g bs)
def S_powers_of_x : Rel := fun ds d => ∃ r g n, Sl r g ∧ n ≤ 1000 ∧ ds = [iD g, iD n] ∧ d = powD (pw r g) n
def S_check_seal : Rel := fun ds d => ∃ r g, Sl r g ∧ ds = [iD g, .int 8] ∧ d = .none
def S_check_rows : Rel := fun ds d => ∃ r g n, Sl r g ∧ r < n ∧ n ≤ 300 ∧ ds = [iD g, iD n] ∧ d = .none
def S_states_of : Rel := fun ds d => ∃ r g, Sl r g ∧ ds = [iD g] ∧ d = iD (2 ^ r)
def S_least_of : Rel := fun ds d => ∃ r c0 c1 f s p, s < 2 ^ r ∧ p < 2 ^ r ∧ r ≤ 8 ∧ ds = [.tuple [.int c0, .int c1], layD r f, iD s, iD p] ∧ d = oD (cmb c0 c1 f p s)
def S_lowest_paper : Rel := fun ds d => ∃ r g n c0 c1, Sl r g ∧ n ≤ 300 ∧ ds = [iD g, priD c0 c1 n] ∧ d = papD r (tab c0 c1 (pw r g) n) n
def S_is_bound : Rel := fun ds d => ∃ r g n c0 c1, Sl r g ∧ n ≤ 300 ∧ ds = [iD g, priD c0 c1 n, papD r (tab c0 c1 (pw r g) n) n] ∧ d = .bool true
def S_state_paper : Rel := fun ds d => ∃ r g n, Sl r g ∧ r < n ∧ n ≤ 300 ∧ ds = [iD g, iD n] ∧ d = papD r (Wtab r g n) n
def S_beginnings : Rel := fun ds d => ∃ r g n T, Sl r g ∧ n ≤ 300 ∧ ds = [iD g, iD n, papD r T n] ∧ d = .list ((List.range n).map fun k => oD (wgt (pw r g) T k))
def S_least_unseen : Rel := fun ds d => ∃ r g n W st, Sl r g ∧ r < n ∧ n ≤ 300 ∧ Lst n (wgt (pw r g) (Wtab r g n)) W st ∧ ds = [iD g, iD n] ∧ d = .tuple [.int W, natsD (lpat (pw r g) (Wtab r g n) n st)]
def S_check_unseen : Rel := fun ds d => ∃ r g n W st, Sl r g ∧ r < n ∧ n ≤ 300 ∧ Lst n (wgt (pw r g) (Wtab r g n)) W st ∧
  ds = [iD g, iD n, .int W, natsD (lpat (pw r g) (Wtab r g n) n st), papD r (Wtab r g n) n] ∧ d = .bool true
def S_profile : Rel := fun ds d => ∃ r g n, Sl r g ∧ r < n ∧ n ≤ 300 ∧ ds = [iD g, iD n] ∧ d = stpD (prf (pw r g) (n - 1))
def S_prices_of : Rel := fun ds d => ∃ n rv, n ≤ 300 ∧ ds = [recD rv n] ∧ d = priD (q0 rv) (q1 rv) n
def S_price : Rel := fun ds d => ∃ n rv row, n ≤ 300 ∧ Bit rv ∧ (∀ k, row k < 2) ∧ ds = [recD rv n, rowD row n] ∧ d = .int (tot (q0 rv) (q1 rv) row n)
def S_nearest : Rel := fun ds d => ∃ r g n rv, Sl r g ∧ r < n ∧ n ≤ 300 ∧ ds = [iD g, recD rv n] ∧ d = .tuple [rowD (trow r g n rv) n, oD (Qtab r g n rv 0 0), papD r (Qtab r g n rv) n]
def S_others : Rel := fun ds d => ∃ r g n rv T row, Sl r g ∧ n ≤ 300 ∧ (∀ k, row k < 2) ∧ ds = [iD g, recD rv n, rowD row n, papD r T n] ∧
  d = .list ((List.range n).map fun k => oD (oth (q0 rv) (q1 rv) (pw r g) T row k))
def S_check_nearest : Rel := fun ds d => ∃ r g n rv v, Sl r g ∧ r < n ∧ n ≤ 300 ∧ Bit rv ∧ Qtab r g n rv 0 0 = some v ∧ ds = [iD g, recD rv n, rowD (trow r g n rv) n, .int v, papD r (Qtab r g n rv) n] ∧ d = .bool true
def S_margin : Rel := fun ds d => ∃ r g n rv v M, Sl r g ∧ r < n ∧ n ≤ 300 ∧ Qtab r g n rv 0 0 = some v ∧ Low n (oth (q0 rv) (q1 rv) (pw r g) (Qtab r g n rv) (trow r g n rv)) M ∧ ds = [iD g, recD rv n] ∧ d = .int (M - v)
def Drw (xs : List Int) : Prop := (∀ x ∈ xs, 0 ≤ x ∧ x < 65536) ∧ xs.length ≤ 4000
def S_law_draws : Rel := fun ds d => ∃ ns : List Int, ns.length ≤ 63 ∧ ds = [.list (ns.map .int)] ∧ d = .list ((draws ns ns.length).map .int)
def S_law_mix : Rel := fun ds d => ∃ xs k m, Drw xs ∧ k ≤ 10000 ∧ 0 < m ∧ ds = [.list (xs.map .int), iD k, iD m] ∧ d = iD (mixf xs k m)
def S_law_powers : Rel := fun ds d => ∃ r g n, Sl r g ∧ n ≤ 1000 ∧ ds = [iD g, iD r, iD n] ∧ d = powD (pw r g) (n + 1)
def S_law_table : Rel := fun ds d => ∃ r P m n c0 c1, r ≤ 8 ∧ n ≤ 300 ∧ n ≤ m ∧ (∀ k, P k < 2 ^ r) ∧ ds = [iD r, powD P m, priD c0 c1 n] ∧ d = papD r (tab c0 c1 P n) n
def S_law_goes : Rel := fun ds d => ∃ r P m n c0 c1 T pre s, n ≤ 300 ∧ n ≤ m ∧ r ≤ 8 ∧ (∀ k, P k < 2 ^ r) ∧ pre.length ≤ n ∧ s < 2 ^ r ∧ ds = [papD r T n, powD P m, priD c0 c1 n, natsD pre, iD s] ∧
  d = natsD (pre ++ wbits (tbit c0 T) P pre.length s (n - pre.length))
def S_law_least : Rel := fun ds d => ∃ r P m n W st, r ≤ 8 ∧ n ≤ 300 ∧ n ≤ m ∧ (∀ k, P k < 2 ^ r) ∧ Lst n (wgt P (tab c00 c11 P n)) W st ∧ ds = [iD r, powD P m, iD n] ∧ d = .tuple [.int W, natsD (lpat P (tab c00 c11 P n) n st)]
def S_law_profile : Rel := fun ds d => ∃ r P m n, 1 ≤ r ∧ r ≤ 8 ∧ 1 ≤ n ∧ n ≤ 300 ∧ n ≤ m ∧ (∀ k, P k < 2 ^ r) ∧ ds = [iD r, powD P m, iD n] ∧ d = stpD (prf P (n - 1))
def S_law_margin : Rel := fun ds d => ∃ r P m n c0 c1 T row M, r ≤ 8 ∧ n ≤ 300 ∧ n ≤ m ∧ (∀ k, P k < 2 ^ r) ∧ (∀ k, row k < 2) ∧ Low n (oth c0 c1 P T row) M ∧ ds = [papD r T n, powD P m, priD c0 c1 n, rowD row n] ∧
  d = .int (M - tot c0 c1 row n)
def S_law_received : Rel := fun ds d => ∃ xs r P m n, Drw xs ∧ 1 ≤ r ∧ r ≤ 8 ∧ r < n ∧ n ≤ 300 ∧ n ≤ m ∧ (∀ k, P k < 2 ^ r) ∧ ds = [.list (xs.map .int), iD r, powD P m, iD n] ∧ d = recD (rcv xs P r n) n
def S_law : Rel := fun ds d => ∃ ns : List Int, ns.length ≤ 63 ∧ ds = [.list (ns.map .int)] ∧ d = .bool true

/-! ## FhNat -/

/-! ### numbers -/
theorem xor_lt {r a b : Nat} (ha : a < 2 ^ r) (hb : b < 2 ^ r) : a ^^^ b < 2 ^ r := Nat.xor_lt_two_pow ha hb
theorem pow8 {r : Nat} (h : r ≤ 8) : 2 ^ r ≤ 256 := Nat.pow_le_pow_right (n := 2) (by decide) h
theorem pow1 (r : Nat) : 1 ≤ 2 ^ r := Nat.two_pow_pos r
theorem pow9 {r : Nat} (h : r ≤ 8) : 2 ^ (r + 1) ≤ 512 := Nat.pow_le_pow_right (n := 2) (j := 9) (by decide) (by omega)
theorem Sl.g512 {r g : Nat} (h : Sl r g) : g < 512 := Nat.lt_of_lt_of_le h.hi (pow9 h.r8)
theorem red_lt {r g x : Nat} (h : Sl r g) (hx : x < 2 ^ (r + 1)) : red r g x < 2 ^ r := by
  have e2 : 2 ^ (r + 1) = 2 * 2 ^ r := by rw [Nat.pow_succ, Nat.mul_comm]
  have hp := Nat.two_pow_pos r
  unfold red
  have q : x / 2 ^ r < 2 := by
    apply Nat.div_lt_of_lt_mul
    rw [Nat.mul_comm]
    omega
  split
  · rename_i e
    -- both have the bit r: the exclusive or has not
    have hg : g / 2 ^ r = 1 := by
      have h1 : g / 2 ^ r < 2 := by
        apply Nat.div_lt_of_lt_mul
        rw [Nat.mul_comm]
        have := h.hi
        omega
      have h2 : 1 ≤ g / 2 ^ r := (Nat.le_div_iff_mul_le hp).mpr (by have := h.lo; omega)
      omega
    have hx1 : x / 2 ^ r = 1 := by
      revert q e
      generalize x / 2 ^ r = y
      intro q e
      omega
    have hz : (x ^^^ g) / 2 ^ r = 0 := by
      rw [Nat.xor_div_two_pow, hx1, hg]
      rfl
    rcases Nat.div_eq_zero_iff.mp hz with z | z
    · omega
    · exact z
  · rename_i e
    have hz : x / 2 ^ r = 0 := by
      revert q e
      generalize x / 2 ^ r = y
      intro q e
      omega
    rcases Nat.div_eq_zero_iff.mp hz with z | z
    · omega
    · exact z
theorem pw_lt {r g : Nat} (h : Sl r g) : ∀ k, pw r g k < 2 ^ r
  | 0 => by
    have h1 : 2 ^ 1 ≤ 2 ^ r := Nat.pow_le_pow_right (by decide) h.r1
    show 1 < 2 ^ r
    omega
  | k + 1 => by
    have ih := pw_lt h k
    refine red_lt h ?_
    rw [Nat.pow_succ]
    omega
theorem bit2 {a b : Nat} {r : Nat} (ha : a < 2 ^ r) (hb : b < 2) : (2 * a) ^^^ b < 2 ^ (r + 1) := by
  refine Nat.xor_lt_two_pow ?_ ?_
  · rw [Nat.pow_succ]
    omega
  · have h1 : 2 ^ 1 ≤ 2 ^ (r + 1) := Nat.pow_le_pow_right (by decide) (by omega)
    omega
theorem rst_lt {r g : Nat} (h : Sl r g) : ∀ bs : List Nat, (∀ b ∈ bs, b < 2) → rst r g bs < 2 ^ r
  | [], _ => Nat.two_pow_pos r
  | b :: bs, hb => red_lt h (bit2 (rst_lt h bs fun x hx => hb x (List.mem_cons_of_mem _ hx)) (hb b List.mem_cons_self))
theorem red_0 {r g : Nat} {x : Nat} (h : x < 2 ^ r) : red r g x = x := by
  unfold red
  rw [Nat.div_eq_of_lt h]
  exact if_neg (by decide)

/-! ### places of a list told by a range -/
theorem at_rng {n k : Nat} {f : Nat → PyData} (h : k < n) : atI ((List.range n).map f) (k : Int) = some (f k) := by
  refine atI_nat ?_
  rw [List.getElem?_map, List.getElem?_range h]
  rfl
theorem len_rng {n : Nat} {f : Nat → PyData} : ((List.range n).map f).length = n := by
  rw [List.length_map, List.length_range]
theorem at_last {ds : List PyData} {d : PyData} {k : Nat} (hl : ds.length = k + 1) (h : ds[k]? = some d) : atI ds (-1) = some d := by
  unfold atI ixN
  rw [hl, if_neg (by omega), if_pos (by omega)]
  show ds[(((-1 : Int) + ((k + 1 : Nat) : Int))).toNat]? = some d
  have e : (((-1 : Int) + ((k + 1 : Nat) : Int))).toNat = k := by omega
  rw [e]
  exact h
theorem rng_succ {n : Nat} {f : Nat → PyData} : (List.range (n + 1)).map f = (List.range n).map f ++ [f n] := by
  rw [List.range_succ, List.map_append]
  rfl
theorem rng_set {n k : Nat} {f g : Nat → PyData} {d : PyData} (hk : g k = d) (ho : ∀ j, j < n → j ≠ k → g j = f j) : ((List.range n).map f).set k d = (List.range n).map g := by
  refine List.ext_getElem? fun i => ?_
  by_cases hi : i < n
  · by_cases e : i = k
    · subst e
      rw [List.getElem?_set_self (by rw [len_rng]; exact hi), List.getElem?_map, List.getElem?_range hi, ← hk]
      rfl
    · rw [List.getElem?_set_ne (Ne.symm e), List.getElem?_map, List.getElem?_map, List.getElem?_range hi]
      show some (f i) = some (g i)
      rw [ho i hi e]
  · rw [List.getElem?_eq_none (by rw [List.length_set, len_rng]; omega), List.getElem?_eq_none (by rw [len_rng]; omega)]
theorem rng_congr {n : Nat} {f g : Nat → PyData} (h : ∀ j, j < n → f j = g j) : (List.range n).map f = (List.range n).map g :=
  List.map_congr_left fun j hj => h j (List.mem_range.mp hj)
theorem rep_rng {n : Nat} {d : PyData} : (List.replicate n [d]).flatten = (List.range n).map fun _ => d := by
  induction n with
  | zero => rfl
  | succ n ih =>
    rw [rng_succ, ← ih, List.replicate_succ', List.flatten_append]
    rfl
theorem rng_rev {n : Nat} {f : Nat → PyData} : ((List.range n).map f).reverse = (List.range n).map fun k => f (n - 1 - k) := by
  refine List.ext_getElem? fun i => ?_
  by_cases hi : i < n
  · rw [List.getElem?_reverse (by rw [len_rng]; exact hi), len_rng, List.getElem?_map, List.getElem?_map, List.getElem?_range hi, List.getElem?_range (by omega)]
    rfl
  · rw [List.getElem?_eq_none (by rw [List.length_reverse, len_rng]; omega), List.getElem?_eq_none (by rw [len_rng]; omega)]
theorem isN_oD (o : Option Int) : isN (oD o) = o.isNone := by
  cases o <;> rfl

/-! ### short words -/
section
variable {K : PySem.W.Frag} {G : List Ent} {ta tb te : TE} {d e : PyData} {ds : List PyData}
theorem dv (i : Nat) (h : G[i]? = some (.im d) := by rfl) : EvD K (tVar i) G d := evd_var h
theorem ov (i : Nat) (h : G[i]? = some (.ow ds) := by rfl) : EvO K (tVar i) G ds := evo_var h
theorem lv (i : Nat) (h : G[i]? = some (.im (.list ds)) := by rfl) : EvO K (tVar i) G ds := (evd_var h).toO
theorem a1 (h : EvD K ta G d) : EvA K (tCons ta tNil) G [d] := eva_cons h eva_nil
theorem a2 {d1 d2 : PyData} {t1 t2 : TE} (h1 : EvD K t1 G d1) (h2 : EvD K t2 G d2) : EvA K (tCons t1 (tCons t2 tNil)) G [d1, d2] := eva_cons h1 (a1 h2)
theorem a3 {d1 d2 d3 : PyData} {t1 t2 t3 : TE} (h1 : EvD K t1 G d1) (h2 : EvD K t2 G d2) (h3 : EvD K t3 G d3) : EvA K (tCons t1 (tCons t2 (tCons t3 tNil))) G [d1, d2, d3] := eva_cons h1 (a2 h2 h3)
theorem a4 {d1 d2 d3 d4 : PyData} {t1 t2 t3 t4 : TE} (h1 : EvD K t1 G d1) (h2 : EvD K t2 G d2) (h3 : EvD K t3 G d3) (h4 : EvD K t4 G d4) : EvA K (tCons t1 (tCons t2 (tCons t3 (tCons t4 tNil)))) G [d1, d2, d3, d4] := eva_cons h1 (a3 h2 h3 h4)
theorem a5 {d1 d2 d3 d4 d5 : PyData} {t1 t2 t3 t4 t5 : TE} (h1 : EvD K t1 G d1) (h2 : EvD K t2 G d2) (h3 : EvD K t3 G d3) (h4 : EvD K t4 G d4) (h5 : EvD K t5 G d5) : EvA K (tCons t1 (tCons t2 (tCons t3 (tCons t4 (tCons t5 tNil))))) G [d1, d2, d3, d4, d5] := eva_cons h1 (a4 h2 h3 h4 h5)
theorem c_nat (n : Nat) : EvD K (tC (.int (n : Int))) G (iD n) := evd_int
/-! whole numbers -/
theorem i_add {i j : Int} (ha : EvD K ta G (.int i)) (hb : EvD K tb G (.int j)) : EvD K (tOp xAdd ta tb) G (.int (i + j)) := evd_op ha hb (rd_0 fun _ => .int _)
theorem i_sub {i j : Int} (ha : EvD K ta G (.int i)) (hb : EvD K tb G (.int j)) : EvD K (tOp xSub ta tb) G (.int (i - j)) := evd_op ha hb (rd_0 fun _ => .int _)
theorem i_mul {i j : Int} (ha : EvD K ta G (.int i)) (hb : EvD K tb G (.int j)) (h : CMul i j) : EvD K (tOp xMul ta tb) G (.int (i * j)) := evd_op ha hb (rd_1 h fun _ => .int _)
theorem i_mod {i j : Int} (ha : EvD K ta G (.int i)) (hb : EvD K tb G (.int j)) (h : j ≠ 0) : EvD K (tOp xMod ta tb) G (.int (i.fmod j)) := evd_op ha hb (rd_1 h fun _ => .int _)
theorem i_div {i j : Int} (ha : EvD K ta G (.int i)) (hb : EvD K tb G (.int j)) (h : CDivN i j) : EvD K (tOp xDiv ta tb) G (.int (i.fdiv j)) := evd_op ha hb (rd_1 h fun _ => .int _)
theorem i_neg {i : Int} (ha : EvD K ta G (.int i)) : EvD K (tUn xNeg ta) G (.int (-i)) := evd_un ha fun _ _ _ v hv Q q => by
  cases hv
  exact ⟨i, rfl, q _ fun _ => .int _⟩
theorem i_lt {i j : Int} (ha : EvD K ta G (.int i)) (hb : EvD K tb G (.int j)) : EvT K (tTest (tOp xLt ta tb)) G (decide (i < j)) := evt_test (evd_op ha hb (rd_0 fun _ => .bl _))
theorem i_le {i j : Int} (ha : EvD K ta G (.int i)) (hb : EvD K tb G (.int j)) : EvT K (tTest (tOp xLe ta tb)) G (decide (i ≤ j)) := evt_test (evd_op ha hb (rd_0 fun _ => .bl _))
theorem i_gt {i j : Int} (ha : EvD K ta G (.int i)) (hb : EvD K tb G (.int j)) : EvT K (tTest (tOp xGt ta tb)) G (decide (j < i)) := evt_test (evd_op ha hb (rd_0 fun _ => .bl _))
theorem i_ge {i j : Int} (ha : EvD K ta G (.int i)) (hb : EvD K tb G (.int j)) : EvT K (tTest (tOp xGe ta tb)) G (decide (j ≤ i)) := evt_test (evd_op ha hb (rd_0 fun _ => .bl _))
theorem i_eq {i j : Int} (ha : EvD K ta G (.int i)) (hb : EvD K tb G (.int j)) : EvT K (tTest (tOp rEq ta tb)) G (decide (i = j)) := evt_test (evd_op ha hb (rd_eqI i j))
theorem i_ne {i j : Int} (ha : EvD K ta G (.int i)) (hb : EvD K tb G (.int j)) : EvT K (tTest (tOp rNe ta tb)) G (!decide (i = j)) := evt_test (evd_op ha hb (rd_neI i j))
theorem o_eq {a b : Option Int} (ha : EvD K ta G (oD a)) (hb : EvD K tb G (oD b)) : EvD K (tOp rEq ta tb) G (.bool (decide (a = b))) := evd_op ha hb (rd_eq a b)
theorem o_ne {a b : Option Int} (ha : EvD K ta G (oD a)) (hb : EvD K tb G (oD b)) : EvD K (tOp rNe ta tb) G (.bool (!decide (a = b))) := evd_op ha hb (rd_ne a b)
theorem e_is (ha : EvD K ta G d) : EvD K (tOp rIs ta (tC .non)) G (.bool (isN d)) := evd_op ha evd_non rd_is
theorem e_isnt (ha : EvD K ta G d) : EvD K (tOp rIsnt ta (tC .non)) G (.bool (!isN d)) := evd_op ha evd_non rd_isnt
theorem t_is (ha : EvD K ta G d) : EvT K (tTest (tOp rIs ta (tC .non))) G (isN d) := evt_test (e_is ha)
theorem t_isnt (ha : EvD K ta G d) : EvT K (tTest (tOp rIsnt ta (tC .non))) G (!isN d) := evt_test (e_isnt ha)
/-! numbers from 0 on -/
theorem n_add {a b : Nat} (ha : EvD K ta G (iD a)) (hb : EvD K tb G (iD b)) : EvD K (tOp xAdd ta tb) G (iD (a + b)) := i_add ha hb
theorem n_mul {a b : Nat} (ha : EvD K ta G (iD a)) (hb : EvD K tb G (iD b)) (h : a < 1000000) : EvD K (tOp xMul ta tb) G (iD (a * b)) := (i_mul ha hb (.inl ⟨by omega, by omega⟩)).eq (by rw [← Int.natCast_mul])
theorem n_xor {a b : Nat} (ha : EvD K ta G (iD a)) (hb : EvD K tb G (iD b)) : EvD K (tOp xXor ta tb) G (iD (a ^^^ b)) := evd_op ha hb (rd_0 fun _ => by
  rw [Bits.bitXor_pp (Int.natCast_nonneg a) (Int.natCast_nonneg b), Int.toNat_natCast, Int.toNat_natCast]
  exact .int _)
theorem cast_pow (b : Nat) : ((2 : Int) ^ b) = ((2 ^ b : Nat) : Int) := by
  rw [Int.natCast_pow]
  rfl
theorem n_shl {a b : Nat} (ha : EvD K ta G (iD a)) (hb : EvD K tb G (iD b)) (h : a < 1000000) (h2 : b ≤ 1000) : EvD K (tOp xShl ta tb) G (iD (a * 2 ^ b)) := evd_op ha hb (rd_1 ⟨by omega, by omega, by omega⟩ fun _ => by
  rw [Int.toNat_natCast, cast_pow, ← Int.natCast_mul]
  exact .int _)
theorem n_shr {a b : Nat} (ha : EvD K ta G (iD a)) (hb : EvD K tb G (iD b)) : EvD K (tOp xShr ta tb) G (iD (a / 2 ^ b)) := evd_op ha hb (rd_1 (by omega) fun _ => by
  rw [Int.toNat_natCast, cast_pow, ← Int.natCast_ediv]
  exact .int _)
theorem n_and1 {a : Nat} (ha : EvD K ta G (iD a)) : EvD K (tOp xAnd ta (tC (.int 1))) G (iD (a % 2)) := evd_op ha evd_int (rd_0 fun _ => by
  have e : Builtin.bitAnd (a : Int) 1 = ((a % 2 : Nat) : Int) := by
    rw [bitAnd_m1]
    omega
  rw [e]
  exact .int _)
theorem n_eq {a b : Nat} (ha : EvD K ta G (iD a)) (hb : EvD K tb G (iD b)) : EvT K (tTest (tOp rEq ta tb)) G (decide (a = b)) := (i_eq ha hb).eq (by
  by_cases e : a = b
  · subst e
    rw [decide_eq_true rfl, decide_eq_true rfl]
  · rw [decide_eq_false e, decide_eq_false (by omega)])
theorem n_lt {a b : Nat} (ha : EvD K ta G (iD a)) (hb : EvD K tb G (iD b)) : EvT K (tTest (tOp xLt ta tb)) G (decide (a < b)) := (i_lt ha hb).eq (by
  by_cases e : a < b
  · rw [decide_eq_true e, decide_eq_true (by omega)]
  · rw [decide_eq_false e, decide_eq_false (by omega)])
/-! items -/
theorem x_pow {P : Nat → Nat} {m k : Nat} {i : Nat} (h : G[i]? = some (.im (powD P m))) (hb : EvD K tb G (iD k)) (hk : k < m) : EvD K (tOp (rIxL K) (tVar i) tb) G (iD (P k)) := evd_ix (EvD.toO (evd_var h)) hb (at_rng hk)
theorem x_lay {r s : Nat} {f : Nat → Option Int} (ha : EvD K ta G (layD r f)) (hb : EvD K tb G (iD s)) (hs : s < 2 ^ r) : EvD K (tOp (rIxL K) ta tb) G (oD (f s)) := evd_ix (EvD.toO ha) hb (at_rng hs)
theorem x_pap {r n k : Nat} {T : Nat → Nat → Option Int} (ha : EvD K ta G (papD r T n)) (hb : EvD K tb G (iD k)) (hk : k ≤ n) : EvD K (tOp (rIxL K) ta tb) G (layD r (T k)) := evd_ix (EvD.toO ha) hb (at_rng (by omega))
theorem x_pri {n k : Nat} {c0 c1 : Nat → Int} (ha : EvD K ta G (priD c0 c1 n)) (hb : EvD K tb G (iD k)) (hk : k < n) : EvD K (tOp (rIxL K) ta tb) G (.tuple [.int (c0 k), .int (c1 k)]) := evd_ix (EvD.toO ha) hb (at_rng hk)
theorem x_2 {b : Nat} {x y : Int} (ha : EvD K ta G (.tuple [.int x, .int y])) (hb : EvD K tb G (iD b)) (h : b < 2) : EvD K (tOp (rIxT K) ta tb) G (.int (if b = 0 then x else y)) := evd_ixT ha hb (by
  rcases b with _ | _ | b
  · rfl
  · rfl
  · omega)
theorem n_dbl {a : Nat} (ha : EvD K ta G (iD a)) (h : a < 1000000) : EvD K (tOp xShl ta (tC (.int 1))) G (iD (2 * a)) := (n_shl ha (c_nat 1) h (by decide)).eq (by rw [Nat.pow_one, Nat.mul_comm])
theorem n_len {α : Type} {l : List α} {f : α → PyData} (ha : EvO K ta G (l.map f)) : EvD K (tCB (rLen K) (tCons ta tNil)) G (iD l.length) := (evd_len ha).eq (by rw [List.length_map])
theorem n_lenR {n : Nat} {f : Nat → PyData} (ha : EvO K ta G ((List.range n).map f)) : EvD K (tCB (rLen K) (tCons ta tNil)) G (iD n) := (evd_len ha).eq (by rw [len_rng])
/-- range(len(..) - 1, -1, -1) -/
theorem a_down {n : Nat} (ha : EvD K ta G (iD n)) : EvA K (tCons (tOp xSub ta (tC (.int 1))) (tCons (tUn xNeg (tC (.int 1))) (tCons (tUn xNeg (tC (.int 1))) tNil))) G [.int ((n : Int) - 1), .int (-1), .int (-1)] := a3 (i_sub ha evd_int) (i_neg evd_int) (i_neg evd_int)
theorem Wk.is {e e' : Ent} {G G' : List Ent} (h : e = e') (w : Wk G G') : Wk (e :: G) (e' :: G') := h ▸ .same w
theorem s_ifT {c : TT} {t u : TS} {N : List Ent → Prop} {r : PyData} (h : EvT K c G true) (h1 : Sat K t G N r) : Sat K (tIfS c t u) G N r := s_if h (fun _ => h1) fun z => nomatch z
theorem s_ifF {c : TT} {t u : TS} {N : List Ent → Prop} {r : PyData} (h : EvT K c G false) (h1 : Sat K u G N r) : Sat K (tIfS c t u) G N r := s_if h (fun z => nomatch z) fun _ => h1
theorem e_ifT {c : TT} (h : EvT K c G true) (h1 : EvD K ta G d) : EvD K (tIf c ta tb) G d := evd_if h (fun _ => h1) fun z => nomatch z
theorem e_ifF {c : TT} (h : EvT K c G false) (h1 : EvD K tb G d) : EvD K (tIf c ta tb) G d := evd_if h (fun z => nomatch z) fun _ => h1
theorem t_isntS {x : Int} (ha : EvD K ta G (.int x)) : EvT K (tTest (tOp rIsnt ta (tC .non))) G true := t_isnt ha
theorem t_isntN (ha : EvD K ta G .none) : EvT K (tTest (tOp rIsnt ta (tC .non))) G false := t_isnt ha
theorem t_isS {x : Int} (ha : EvD K ta G (.int x)) : EvT K (tTest (tOp rIs ta (tC .non))) G false := t_is ha
theorem t_isN (ha : EvD K ta G .none) : EvT K (tTest (tOp rIs ta (tC .non))) G true := t_is ha
theorem t_emp (ha : EvO K ta G []) : EvT K (tTruth K ta) G false := evt_truth ha
theorem t_ne {e : PyData} {es : List PyData} (ha : EvO K ta G (e :: es)) : EvT K (tTruth K ta) G true := evt_truth ha
theorem evt_orT {t u : TT} (h : EvT K t G true) : EvT K (tOr t u) G true := evt_or (b := false) h fun z => nomatch z
theorem evt_orF {t u : TT} {b : Bool} (h : EvT K t G false) (h2 : EvT K u G b) : EvT K (tOr t u) G b := evt_or h fun _ => h2
theorem evt_andT {t u : TT} {b : Bool} (h : EvT K t G true) (h2 : EvT K u G b) : EvT K (tAnd t u) G b := evt_and h fun _ => h2
theorem evt_andF {t u : TT} (h : EvT K t G false) : EvT K (tAnd t u) G false := evt_and (b := false) h fun z => nomatch z
/-- (rest >> size) & 1 == 1 -/
theorem t_red {a b : Nat} {t1 t2 : TE} (ha : EvD K t1 G (iD a)) (hb : EvD K t2 G (iD b)) : EvT K (tTest (tOp rEq (tOp xAnd (tOp xShr t1 t2) (tC (.int 1))) (tC (.int 1)))) G (decide (a / 2 ^ b % 2 = 1)) := n_eq (n_and1 (n_shr ha hb)) (c_nat 1)
end

/-! ## the readings of the defs -/
/-- degree: p 0, found 1; level 1 -/
abbrev N_degree : List Str := ["p", "found"]
abbrev P_degree : List Str := ["p"]
def t_degree (K : PySem.W.Frag) : TS := (tSeq (tAsg (tUn xNeg (tC (.int 1))) (gName 1))
  (tSeq (tWhile (tTest (tOp xGt (tVar 0) (tC (.int 0)))) (tSeq (tAsg (tOp xShr (tVar 0) (tC (.int 1))) (gName 0))
  (tSeq (tAug 1 (tC (.int 1)) (ipI fun i j => i + j))
  tNext)))
  (tSeq (tRet (tVar 1))
  tNext)))
/-- rest_of: poly 0, bits 1, size 2, rest 3, k 4; level 2 -/
abbrev N_rest_of : List Str := ["poly", "bits", "size", "rest", "k"]
abbrev P_rest_of : List Str := ["poly", "bits"]
def t_rest_of (K : PySem.W.Frag) : TS := (tSeq (tAsg (tCall (FnSp K S_degree) [] E0 (tCons (tVar 0) tNil)) (gName 2))
  (tSeq (tAsg (tC (.int 0)) (gName 3))
  (tSeq (tFor (iRng3 (tCons (tOp xSub (tCB (rLen K) (tCons (tVar 1) tNil)) (tC (.int 1))) (tCons (tUn xNeg (tC (.int 1))) (tCons (tUn xNeg (tC (.int 1))) tNil)))) (gName 4) (tSeq (tAsg (tOp xXor (tOp xShl (tVar 3) (tC (.int 1))) (tOp (rIxL K) (tVar 1) (tVar 4))) (gName 3))
  (tSeq (tIfS (tTest (tOp rEq (tOp xAnd (tOp xShr (tVar 3) (tVar 2)) (tC (.int 1))) (tC (.int 1)))) (tSeq (tAsg (tOp xXor (tVar 3) (tVar 0)) (gName 3))
  tNext) tNext)
  tNext)))
  (tSeq (tRet (tVar 3))
  tNext))))
/-- powers_of_x: poly 0, count 1, size 2, powers 3, rest 4, _ 5; level 2 -/
abbrev N_powers_of_x : List Str := ["poly", "count", "size", "powers", "rest", "_"]
abbrev P_powers_of_x : List Str := ["poly", "count"]
def t_powers_of_x (K : PySem.W.Frag) : TS := (tSeq (tAsg (tCall (FnSp K S_degree) [] E0 (tCons (tVar 0) tNil)) (gName 2))
  (tSeq (tAsg (tLst tNil) (gName 3))
  (tSeq (tAsg (tC (.int 1)) (gName 4))
  (tSeq (tFor (iRng1 (tCons (tVar 1) tNil)) (gName 5) (tSeq (tIfS (tTest (tOp rEq (tOp xAnd (tOp xShr (tVar 4) (tVar 2)) (tC (.int 1))) (tC (.int 1)))) (tSeq (tAsg (tOp xXor (tVar 4) (tVar 0)) (gName 4))
  tNext) tNext)
  (tSeq (tDrop (tBM K "list" rAppend (tVar 3) (tCons (tVar 4) tNil)))
  (tSeq (tAsg (tOp xShl (tVar 4) (tC (.int 1))) (gName 4))
  tNext))))
  (tSeq (tRet (tVar 3))
  tNext)))))
/-- check_seal: seal 0, most 1; level 2 -/
abbrev N_check_seal : List Str := ["seal", "most"]
abbrev P_check_seal : List Str := ["seal", "most"]
def t_check_seal (K : PySem.W.Frag) : TS := (tSeq (tIfS (tOr (tTest (tOp xLt (tVar 0) (tC (.int 0)))) (tOr (tNot (tTest (tChain xLe xLe (tC (.int 1)) (tCall (FnSp K S_degree) [] E0 (tCons (tVar 0) tNil)) (tVar 1)))) (tTest (tOp rEq (tOp xAnd (tVar 0) (tC (.int 1))) (tC (.int 0)))))) (tSeq tNever
  tNext) tNext)
  tNext)
/-- check_rows: seal 0, size 1; level 3 -/
abbrev N_check_rows : List Str := ["seal", "size"]
abbrev P_check_rows : List Str := ["seal", "size"]
def t_check_rows (K : PySem.W.Frag) : TS := (tSeq (tDrop (tCall (FnSp K S_check_seal) [] E0 (tCons (tVar 0) (tCons (tC (.int 8)) tNil))))
  (tSeq (tIfS (tNot (tTest (tChain xLt xLe (tCall (FnSp K S_degree) [] E0 (tCons (tVar 0) tNil)) (tVar 1) (tC (.int 300))))) (tSeq tNever
  tNext) tNext)
  tNext))
/-- states_of: seal 0; level 2 -/
abbrev N_states_of : List Str := ["seal"]
abbrev P_states_of : List Str := ["seal"]
def t_states_of (K : PySem.W.Frag) : TS := (tSeq (tRet (tOp xShl (tC (.int 1)) (tCall (FnSp K S_degree) [] E0 (tCons (tVar 0) tNil))))
  tNext)
/-- least_of: prices 0, after 1, state 2, power 3, found 4, bit 5, rest 6; level 1 -/
abbrev N_least_of : List Str := ["prices", "after", "state", "power", "found", "bit", "rest"]
abbrev P_least_of : List Str := ["prices", "after", "state", "power"]
def t_least_of (K : PySem.W.Frag) : TS := (tSeq (tAsg (tLst tNil) (gName 4))
  (tSeq (tFor (iTup K (tTup (tCons (tC (.int 0)) (tCons (tC (.int 1)) tNil)))) (gName 5) (tSeq (tAsg (tOp (rIxL K) (tVar 1) (tOp xXor (tVar 2) (tOp xMul (tVar 3) (tVar 5)))) (gName 6))
  (tSeq (tIfS (tTest (tOp rIsnt (tVar 6) (tC .non))) (tSeq (tDrop (tBM K "list" rAppend (tVar 4) (tCons (tOp xAdd (tVar 6) (tOp (rIxT K) (tVar 0) (tVar 5))) tNil)))
  tNext) tNext)
  tNext)))
  (tSeq (tRet (tIf (tTruth K (tVar 4)) (tCB (rMin K) (tCons (tVar 4) tNil)) (tC .non)))
  tNext)))
/-- lowest_paper: seal 0, prices 1, powers 2, paper 3, place 4, layer 5, state 6; level 3 -/
abbrev N_lowest_paper : List Str := ["seal", "prices", "powers", "paper", "place", "layer", "state"]
abbrev P_lowest_paper : List Str := ["seal", "prices"]
def t_lowest_paper (K : PySem.W.Frag) : TS := (tSeq (tAsg (tCall (FnSp K S_powers_of_x) [] E0 (tCons (tVar 0) (tCons (tCB (rLen K) (tCons (tVar 1) tNil)) tNil))) (gName 2))
  (tSeq (tAsg (tLst (tCons (tOp rCat (tLst (tCons (tC (.int 0)) tNil)) (tOp rRep (tLst (tCons (tC .non) tNil)) (tOp xSub (tCall (FnSp K S_states_of) [] E0 (tCons (tVar 0) tNil)) (tC (.int 1))))) tNil)) (gName 3))
  (tSeq (tFor (iRng3 (tCons (tOp xSub (tCB (rLen K) (tCons (tVar 1) tNil)) (tC (.int 1))) (tCons (tUn xNeg (tC (.int 1))) (tCons (tUn xNeg (tC (.int 1))) tNil)))) (gName 4) (tSeq (tAsg (tLc (iRng1 (tCons (tCall (FnSp K S_states_of) [] E0 (tCons (tVar 0) tNil)) tNil)) (gName 6) tYes (tCall (FnSp K S_least_of) [] E0 (tCons (tOp (rIxL K) (tVar 1) (tVar 4)) (tCons (tOp (rIxL K) (tVar 3) (tUn xNeg (tC (.int 1)))) (tCons (tVar 6) (tCons (tOp (rIxL K) (tVar 2) (tVar 4)) tNil))))) [6]) (gName 5))
  (tSeq (tDrop (tBM K "list" rAppend (tVar 3) (tCons (tVar 5) tNil)))
  tNext)))
  (tSeq (tDrop (tBM0 K "list" rReverse (tVar 3)))
  (tSeq (tRet (tVar 3))
  tNext)))))
/-- is_bound: seal 0, prices 1, paper 2, last 3, powers 4, place 5, state 6, least 7, here 8, layer 9; level 3 -/
abbrev N_is_bound : List Str := ["seal", "prices", "paper", "last", "powers", "place", "state", "least", "here", "layer"]
abbrev P_is_bound : List Str := ["seal", "prices", "paper"]
def t_is_bound (K : PySem.W.Frag) : TS := (tSeq (tAsg (tCB (rLen K) (tCons (tVar 1) tNil)) (gName 3))
  (tSeq (tIfS (tOr (tTest (tOp rNe (tCB (rLen K) (tCons (tVar 2) tNil)) (tOp xAdd (tVar 3) (tC (.int 1))))) (tNot (tB (tCB (rAll K) (tCons (tLc (iList K (tVar 2)) (gName 9) tYes (tOp rEq (tCB (rLen K) (tCons (tVar 9) tNil)) (tCall (FnSp K S_states_of) [] E0 (tCons (tVar 0) tNil))) [9]) tNil))))) (tSeq (tRet (tC (.bl false)))
  tNext) tNext)
  (tSeq (tIfS (tOr (tTest (tOp rIs (tOp (rIxL K) (tOp (rIxL K) (tVar 2) (tVar 3)) (tC (.int 0))) (tC .non))) (tTest (tOp xGt (tOp (rIxL K) (tOp (rIxL K) (tVar 2) (tVar 3)) (tC (.int 0))) (tC (.int 0))))) (tSeq (tRet (tC (.bl false)))
  tNext) tNext)
  (tSeq (tAsg (tCall (FnSp K S_powers_of_x) [] E0 (tCons (tVar 0) (tCons (tVar 3) tNil))) (gName 4))
  (tSeq (tFor (iRng1 (tCons (tVar 3) tNil)) (gName 5) (tSeq (tFor (iRng1 (tCons (tCall (FnSp K S_states_of) [] E0 (tCons (tVar 0) tNil)) tNil)) (gName 6) (tSeq (tAsg (tCall (FnSp K S_least_of) [] E0 (tCons (tOp (rIxL K) (tVar 1) (tVar 5)) (tCons (tOp (rIxL K) (tVar 2) (tOp xAdd (tVar 5) (tC (.int 1)))) (tCons (tVar 6) (tCons (tOp (rIxL K) (tVar 4) (tVar 5)) tNil))))) (gName 7))
  (tSeq (tAsg (tOp (rIxL K) (tOp (rIxL K) (tVar 2) (tVar 5)) (tVar 6)) (gName 8))
  (tSeq (tIfS (tAnd (tTest (tOp rIsnt (tVar 7) (tC .non))) (tOr (tTest (tOp rIs (tVar 8) (tC .non))) (tTest (tOp xGt (tVar 8) (tVar 7))))) (tSeq (tRet (tC (.bl false)))
  tNext) tNext)
  tNext))))
  tNext))
  (tSeq (tRet (tC (.bl true)))
  tNext))))))
/-- state_paper: seal 0, size 1; level 4 -/
abbrev N_state_paper : List Str := ["seal", "size"]
abbrev P_state_paper : List Str := ["seal", "size"]
def t_state_paper (K : PySem.W.Frag) : TS := (tSeq (tDrop (tCall (FnSp K S_check_rows) [] E0 (tCons (tVar 0) (tCons (tVar 1) tNil))))
  (tSeq (tRet (tCall (FnSp K S_lowest_paper) [] E0 (tCons (tVar 0) (tCons (tOp rRep (tLst (tCons (tTup (tCons (tC (.int 0)) (tCons (tC (.int 1)) tNil))) tNil)) (tVar 1)) tNil))))
  tNext))
/-- beginnings: seal 0, size 1, paper 2, powers 3, rests 4, place 5, rest 6; level 3 -/
abbrev N_beginnings : List Str := ["seal", "size", "paper", "powers", "rests", "place", "rest"]
abbrev P_beginnings : List Str := ["seal", "size", "paper"]
def t_beginnings (K : PySem.W.Frag) : TS := (tSeq (tAsg (tCall (FnSp K S_powers_of_x) [] E0 (tCons (tVar 0) (tCons (tVar 1) tNil))) (gName 3))
  (tSeq (tAsg (tLc (iRng1 (tCons (tVar 1) tNil)) (gName 5) tYes (tOp (rIxL K) (tOp (rIxL K) (tVar 2) (tOp xAdd (tVar 5) (tC (.int 1)))) (tOp (rIxL K) (tVar 3) (tVar 5))) [5]) (gName 4))
  (tSeq (tRet (tLc (iList K (tVar 4)) (gName 6) tYes (tIf (tTest (tOp rIs (tVar 6) (tC .non))) (tC .non) (tOp xAdd (tVar 6) (tC (.int 1)))) [6]))
  tNext)))
/-- least_unseen: seal 0, size 1, paper 2, powers 3, weights 4, least 5, start 6, pattern 7, state 8, place 9, bit 10, weight 11; level 5 -/
abbrev N_least_unseen : List Str := ["seal", "size", "paper", "powers", "weights", "least", "start", "pattern", "state", "place", "bit", "weight"]
abbrev P_least_unseen : List Str := ["seal", "size"]
def t_least_unseen (K : PySem.W.Frag) : TS := (tSeq (tAsg (tCall (FnSp K S_state_paper) [] E0 (tCons (tVar 0) (tCons (tVar 1) tNil))) (gName 2))
  (tSeq (tAsg (tCall (FnSp K S_powers_of_x) [] E0 (tCons (tVar 0) (tCons (tVar 1) tNil))) (gName 3))
  (tSeq (tAsg (tCall (FnSp K S_beginnings) [] E0 (tCons (tVar 0) (tCons (tVar 1) (tCons (tVar 2) tNil)))) (gName 4))
  (tSeq (tAsg (tCB (rMin K) (tCons (tLc (iList K (tVar 4)) (gName 11) (tTest (tOp rIsnt (tVar 11) (tC .non))) (tVar 11) [11]) tNil)) (gName 5))
  (tSeq (tAsg (tCB (rMax K) (tCons (tLc (iRng1 (tCons (tVar 1) tNil)) (gName 9) (tTest (tOp rEq (tOp (rIxL K) (tVar 4) (tVar 9)) (tVar 5))) (tVar 9) [9]) tNil)) (gName 6))
  (tSeq (tAsg (tOp rCat (tOp rRep (tLst (tCons (tC (.int 0)) tNil)) (tVar 6)) (tLst (tCons (tC (.int 1)) tNil))) (gName 7))
  (tSeq (tAsg (tOp (rIxL K) (tVar 3) (tVar 6)) (gName 8))
  (tSeq (tFor (iRng2 (tCons (tOp xAdd (tVar 6) (tC (.int 1))) (tCons (tVar 1) tNil))) (gName 9) (tSeq (tAsg (tIf (tTest (tOp rEq (tOp (rIxL K) (tOp (rIxL K) (tVar 2) (tOp xAdd (tVar 9) (tC (.int 1)))) (tVar 8)) (tOp (rIxL K) (tOp (rIxL K) (tVar 2) (tVar 9)) (tVar 8)))) (tC (.int 0)) (tC (.int 1))) (gName 10))
  (tSeq (tDrop (tBM K "list" rAppend (tVar 7) (tCons (tVar 10) tNil)))
  (tSeq (tAsg (tOp xXor (tVar 8) (tOp xMul (tOp (rIxL K) (tVar 3) (tVar 9)) (tVar 10))) (gName 8))
  tNext))))
  (tSeq (tRet (tTup (tCons (tVar 5) (tCons (tVar 7) tNil))))
  tNext)))))))))
/-- check_unseen: seal 0, size 1, weight 2, pattern 3, paper 4, bit 5, bound 6; level 4 -/
abbrev N_check_unseen : List Str := ["seal", "size", "weight", "pattern", "paper", "bit", "bound"]
abbrev P_check_unseen : List Str := ["seal", "size", "weight", "pattern", "paper"]
def t_check_unseen (K : PySem.W.Frag) : TS := (tSeq (tDrop (tCall (FnSp K S_check_rows) [] E0 (tCons (tVar 0) (tCons (tVar 1) tNil))))
  (tSeq (tIfS (tOr (tTest (tOp rNe (tCB (rLen K) (tCons (tVar 3) tNil)) (tVar 1))) (tOr (tNot (tB (tCB (rAll K) (tCons (tLc (iList K (tVar 3)) (gName 5) tYes (tOp (rIn K false) (tVar 5) (tTup (tCons (tC (.int 0)) (tCons (tC (.int 1)) tNil)))) [5]) tNil)))) (tOr (tTest (tOp rNe (tCB (rSum K) (tCons (tVar 3) tNil)) (tVar 2))) (tTest (tOp xLt (tVar 2) (tC (.int 1))))))) (tSeq (tRet (tC (.bl false)))
  tNext) tNext)
  (tSeq (tIfS (tOr (tTest (tOp rNe (tCall (FnSp K S_rest_of) [] E0 (tCons (tVar 0) (tCons (tVar 3) tNil))) (tC (.int 0)))) (tNot (tB (tCall (FnSp K S_is_bound) [] E0 (tCons (tVar 0) (tCons (tOp rRep (tLst (tCons (tTup (tCons (tC (.int 0)) (tCons (tC (.int 1)) tNil))) tNil)) (tVar 1)) (tCons (tVar 4) tNil))))))) (tSeq (tRet (tC (.bl false)))
  tNext) tNext)
  (tSeq (tRet (tCB (rAll K) (tCons (tLc (iList K (tCall (FnSp K S_beginnings) [] E0 (tCons (tVar 0) (tCons (tVar 1) (tCons (tVar 4) tNil))))) (gName 6) tYes (tOrV (tOp rIs (tVar 6) (tC .non)) (tOp xLe (tVar 2) (tVar 6))) [6]) tNil)))
  tNext))))
/-- profile: seal 0, most 1, powers 2, prices 3, steps 4, place 5, old 6, state 7, rest 8; level 4 -/
abbrev N_profile : List Str := ["seal", "most", "powers", "prices", "steps", "place", "old", "state", "rest"]
abbrev P_profile : List Str := ["seal", "most"]
def t_profile (K : PySem.W.Frag) : TS := (tSeq (tDrop (tCall (FnSp K S_check_rows) [] E0 (tCons (tVar 0) (tCons (tVar 1) tNil))))
  (tSeq (tAsg (tCall (FnSp K S_powers_of_x) [] E0 (tCons (tVar 0) (tCons (tVar 1) tNil))) (gName 2))
  (tSeq (tAsg (tOp rRep (tLst (tCons (tC .non) tNil)) (tCall (FnSp K S_states_of) [] E0 (tCons (tVar 0) tNil))) (gName 3))
  (tSeq (tAsg (tC (.int 1)) (gSub (tVar 3) (tC (.int 1)) rSetL))
  (tSeq (tAsg (tLst tNil) (gName 4))
  (tSeq (tFor (iRng2 (tCons (tC (.int 1)) (tCons (tVar 1) tNil))) (gName 5) (tSeq (tAsg (tCB (rList K) (tCons (tVar 3) tNil)) (gName 6))
  (tSeq (tFor (iRng1 (tCons (tCall (FnSp K S_states_of) [] E0 (tCons (tVar 0) tNil)) tNil)) (gName 7) (tSeq (tAsg (tOp (rIxL K) (tVar 6) (tOp xXor (tVar 7) (tOp (rIxL K) (tVar 2) (tVar 5)))) (gName 8))
  (tSeq (tIfS (tAnd (tTest (tOp rIsnt (tVar 8) (tC .non))) (tOr (tTest (tOp rIs (tOp (rIxL K) (tVar 3) (tVar 7)) (tC .non))) (tTest (tOp xLt (tOp xAdd (tVar 8) (tC (.int 1))) (tOp (rIxL K) (tVar 3) (tVar 7)))))) (tSeq (tAsg (tOp xAdd (tVar 8) (tC (.int 1))) (gSub (tVar 3) (tVar 7) rSetL))
  tNext) tNext)
  tNext)))
  (tSeq (tIfS (tAnd (tTest (tOp rIsnt (tOp (rIxL K) (tVar 3) (tC (.int 0))) (tC .non))) (tOr (tNot (tTruth K (tVar 4))) (tTest (tOp xLt (tOp (rIxL K) (tVar 3) (tC (.int 0))) (tOp (rIxT K) (tOp (rIxL K) (tVar 4) (tUn xNeg (tC (.int 1)))) (tC (.int 1))))))) (tSeq (tDrop (tBM K "list" rAppend (tVar 4) (tCons (tTup (tCons (tOp xAdd (tVar 5) (tC (.int 1))) (tCons (tOp (rIxL K) (tVar 3) (tC (.int 0))) tNil))) tNil)))
  tNext) tNext)
  tNext))))
  (tSeq (tRet (tVar 4))
  tNext)))))))
/-- prices_of: received 0, bit 1; level 1 -/
abbrev N_prices_of : List Str := ["received", "bit"]
abbrev P_prices_of : List Str := ["received"]
def t_prices_of (K : PySem.W.Frag) : TS := (tSeq (tRet (tLc (iList K (tVar 0)) (gName 1) tYes (tTup (tCons (tCB rInt1 (tCons (tOp rEq (tVar 1) (tC (.int 1))) tNil)) (tCons (tCB rInt1 (tCons (tOp rEq (tVar 1) (tC (.int 0))) tNil)) tNil))) [1]))
  tNext)
/-- price: received 0, row 1, k 2; level 1 -/
abbrev N_price : List Str := ["received", "row", "k"]
abbrev P_price : List Str := ["received", "row"]
def t_price (K : PySem.W.Frag) : TS := (tSeq (tRet (tCB (rLen K) (tCons (tLc (iRng1 (tCons (tCB (rLen K) (tCons (tVar 1) tNil)) tNil)) (gName 2) (tAnd (tTest (tOp rIsnt (tOp (rIxL K) (tVar 0) (tVar 2)) (tC .non))) (tTest (tOp rNe (tOp (rIxL K) (tVar 0) (tVar 2)) (tOp (rIxL K) (tVar 1) (tVar 2))))) (tVar 2) [2]) tNil)))
  tNext)
/-- nearest: seal 0, received 1, prices 2, powers 3, paper 4, row 5, state 6, place 7, rest 8, bit 9; level 4 -/
abbrev N_nearest : List Str := ["seal", "received", "prices", "powers", "paper", "row", "state", "place", "rest", "bit"]
abbrev P_nearest : List Str := ["seal", "received"]
def t_nearest (K : PySem.W.Frag) : TS := (tSeq (tDrop (tCall (FnSp K S_check_rows) [] E0 (tCons (tVar 0) (tCons (tCB (rLen K) (tCons (tVar 1) tNil)) tNil))))
  (tSeq (tAsg (tCall (FnSp K S_prices_of) [] E0 (tCons (tVar 1) tNil)) (gName 2))
  (tSeq (tAsg (tCall (FnSp K S_powers_of_x) [] E0 (tCons (tVar 0) (tCons (tCB (rLen K) (tCons (tVar 1) tNil)) tNil))) (gName 3))
  (tSeq (tAsg (tCall (FnSp K S_lowest_paper) [] E0 (tCons (tVar 0) (tCons (tVar 2) tNil))) (gName 4))
  (tSeq (tAsg (tLst tNil) (gName 5))
  (tSeq (tAsg (tC (.int 0)) (gName 6))
  (tSeq (tFor (iRng1 (tCons (tCB (rLen K) (tCons (tVar 1) tNil)) tNil)) (gName 7) (tSeq (tAsg (tOp (rIxL K) (tOp (rIxL K) (tVar 4) (tOp xAdd (tVar 7) (tC (.int 1)))) (tVar 6)) (gName 8))
  (tSeq (tAsg (tC (.int 1)) (gName 9))
  (tSeq (tIfS (tAnd (tTest (tOp rIsnt (tVar 8) (tC .non))) (tTest (tOp rEq (tOp xAdd (tVar 8) (tOp (rIxT K) (tOp (rIxL K) (tVar 2) (tVar 7)) (tC (.int 0)))) (tOp (rIxL K) (tOp (rIxL K) (tVar 4) (tVar 7)) (tVar 6))))) (tSeq (tAsg (tC (.int 0)) (gName 9))
  tNext) tNext)
  (tSeq (tDrop (tBM K "list" rAppend (tVar 5) (tCons (tVar 9) tNil)))
  (tSeq (tAsg (tOp xXor (tVar 6) (tOp xMul (tOp (rIxL K) (tVar 3) (tVar 7)) (tVar 9))) (gName 6))
  tNext))))))
  (tSeq (tRet (tTup (tCons (tVar 5) (tCons (tOp (rIxL K) (tOp (rIxL K) (tVar 4) (tC (.int 0))) (tC (.int 0))) (tCons (tVar 4) tNil)))))
  tNext))))))))
/-- others: seal 0, received 1, row 2, paper 3, prices 4, powers 5, found 6, state 7, total 8, place 9, bit 10, rest 11; level 3 -/
abbrev N_others : List Str := ["seal", "received", "row", "paper", "prices", "powers", "found", "state", "total", "place", "bit", "rest"]
abbrev P_others : List Str := ["seal", "received", "row", "paper"]
def t_others (K : PySem.W.Frag) : TS := (tSeq (tAsg (tCall (FnSp K S_prices_of) [] E0 (tCons (tVar 1) tNil)) (gName 4))
  (tSeq (tAsg (tCall (FnSp K S_powers_of_x) [] E0 (tCons (tVar 0) (tCons (tCB (rLen K) (tCons (tVar 1) tNil)) tNil))) (gName 5))
  (tSeq (tAsg (tLst tNil) (gName 6))
  (tSeq (tAsg (tC (.int 0)) (gName 7))
  (tSeq (tAsg (tC (.int 0)) (gName 8))
  (tSeq (tFor (iRng1 (tCons (tCB (rLen K) (tCons (tVar 2) tNil)) tNil)) (gName 9) (tSeq (tAsg (tOp (rIxL K) (tVar 2) (tVar 9)) (gName 10))
  (tSeq (tAsg (tOp (rIxL K) (tOp (rIxL K) (tVar 3) (tOp xAdd (tVar 9) (tC (.int 1)))) (tOp xXor (tVar 7) (tOp xMul (tOp (rIxL K) (tVar 5) (tVar 9)) (tOp xSub (tC (.int 1)) (tVar 10))))) (gName 11))
  (tSeq (tDrop (tBM K "list" rAppend (tVar 6) (tCons (tIf (tTest (tOp rIs (tVar 11) (tC .non))) (tC .non) (tOp xAdd (tOp xAdd (tVar 8) (tOp (rIxT K) (tOp (rIxL K) (tVar 4) (tVar 9)) (tOp xSub (tC (.int 1)) (tVar 10)))) (tVar 11))) tNil)))
  (tSeq (tAug 8 (tOp (rIxT K) (tOp (rIxL K) (tVar 4) (tVar 9)) (tVar 10)) (ipI fun i j => i + j))
  (tSeq (tAsg (tOp xXor (tVar 7) (tOp xMul (tOp (rIxL K) (tVar 5) (tVar 9)) (tVar 10))) (gName 7))
  tNext))))))
  (tSeq (tRet (tVar 6))
  tNext)))))))
/-- check_nearest: seal 0, received 1, row 2, claim 3, paper 4, size 5, found 6, bit 7, k 8; level 4 -/
abbrev N_check_nearest : List Str := ["seal", "received", "row", "claim", "paper", "size", "found", "bit", "k"]
abbrev P_check_nearest : List Str := ["seal", "received", "row", "claim", "paper"]
def t_check_nearest (K : PySem.W.Frag) : TS := (tSeq (tAsg (tCB (rLen K) (tCons (tVar 1) tNil)) (gName 5))
  (tSeq (tDrop (tCall (FnSp K S_check_rows) [] E0 (tCons (tVar 0) (tCons (tVar 5) tNil))))
  (tSeq (tIfS (tOr (tTest (tOp rNe (tCB (rLen K) (tCons (tVar 2) tNil)) (tVar 5))) (tOr (tNot (tB (tCB (rAll K) (tCons (tLc (iList K (tVar 2)) (gName 7) tYes (tOp (rIn K false) (tVar 7) (tTup (tCons (tC (.int 0)) (tCons (tC (.int 1)) tNil)))) [7]) tNil)))) (tTest (tOp rNe (tCall (FnSp K S_rest_of) [] E0 (tCons (tVar 0) (tCons (tVar 2) tNil))) (tC (.int 0)))))) (tSeq (tRet (tC (.bl false)))
  tNext) tNext)
  (tSeq (tIfS (tOr (tTest (tOp rNe (tCall (FnSp K S_price) [] E0 (tCons (tVar 1) (tCons (tVar 2) tNil))) (tVar 3))) (tNot (tB (tCall (FnSp K S_is_bound) [] E0 (tCons (tVar 0) (tCons (tCall (FnSp K S_prices_of) [] E0 (tCons (tVar 1) tNil)) (tCons (tVar 4) tNil))))))) (tSeq (tRet (tC (.bl false)))
  tNext) tNext)
  (tSeq (tAsg (tCall (FnSp K S_others) [] E0 (tCons (tVar 0) (tCons (tVar 1) (tCons (tVar 2) (tCons (tVar 4) tNil))))) (gName 6))
  (tSeq (tRet (tCB (rAll K) (tCons (tLc (iRng1 (tCons (tVar 5) tNil)) (gName 8) tYes (tOrV (tOp rIs (tOp (rIxL K) (tVar 6) (tVar 8)) (tC .non)) (tOp xGe (tOp (rIxL K) (tVar 6) (tVar 8)) (tOp xAdd (tVar 3) (tOp (rIxL K) (tVar 2) (tVar 8))))) [8]) tNil)))
  tNext))))))
/-- margin: seal 0, received 1, row 2, least 3, paper 4, other 5; level 5 -/
abbrev N_margin : List Str := ["seal", "received", "row", "least", "paper", "other"]
abbrev P_margin : List Str := ["seal", "received"]
def t_margin (K : PySem.W.Frag) : TS := (tSeq (tAsg (tCall (FnSp K S_nearest) [] E0 (tCons (tVar 0) (tCons (tVar 1) tNil))) (gTup K 3 (gCons (gName 2) (gCons (gName 3) (gCons (gName 4) gNil)))))
  (tSeq (tRet (tOp xSub (tCB (rMin K) (tCons (tLc (iList K (tCall (FnSp K S_others) [] E0 (tCons (tVar 0) (tCons (tVar 1) (tCons (tVar 2) (tCons (tVar 4) tNil)))))) (gName 5) (tTest (tOp rIsnt (tVar 5) (tC .non))) (tVar 5) [5]) tNil)) (tVar 3)))
  tNext))
/-- _law_draws: _law_script 0, _law_draws_here 1, _law_k 2, _law_rest 3, _law_turn 4, _law_mixed 5; level 1 -/
abbrev N_law_draws : List Str := ["_law_script", "_law_draws_here", "_law_k", "_law_rest", "_law_turn", "_law_mixed"]
abbrev P_law_draws : List Str := ["_law_script"]
def t_law_draws (K : PySem.W.Frag) : TS := (tSeq (tAsg (tLst tNil) (gName 1))
  (tSeq (tFor (iRng1 (tCons (tCB rMin2 (tCons (tC (.int 63)) (tCons (tCB (rLen K) (tCons (tVar 0) tNil)) tNil))) tNil)) (gName 2) (tSeq (tAsg (tCB rAbs (tCons (tOp (rIxL K) (tVar 0) (tVar 2)) tNil)) (gName 3))
  (tSeq (tIfS (tTest (tOp xGe (tVar 3) (tOp xPow (tC (.int 10)) (tC (.int 18))))) (tSeq (tFor (iRng1 (tCons (tC (.int 60)) tNil)) (gName 4) (tSeq (tIfS (tTest (tOp xGt (tVar 3) (tC (.int 0)))) (tSeq (tDrop (tBM K "list" rAppend (tVar 1) (tCons (tOp xMod (tCB rInt1 (tCons (tVar 3) tNil)) (tC (.int 65536))) tNil)))
  (tSeq (tAsg (tOp xDiv (tVar 3) (tC (.int 65536))) (gName 3))
  tNext)) tNext)
  tNext))
  tNext) (tSeq (tAsg (tOp xMod (tCB rInt1 (tCons (tOp xAdd (tOp xMul (tVar 3) (tC (.int 48271))) (tOp xMul (tOp xAdd (tVar 2) (tC (.int 1))) (tC (.int 69621)))) tNil)) (tC (.int 2147483647))) (gName 5))
  (tSeq (tAsg (tOp xMod (tCB rInt1 (tCons (tOp xAdd (tOp xAdd (tOp xMul (tVar 5) (tC (.int 16807))) (tOp xMul (tC (.int 11)) (tVar 2))) (tC (.int 5))) tNil)) (tC (.int 2147483629))) (gName 5))
  (tSeq (tDrop (tBM K "list" rAppend (tVar 1) (tCons (tOp xMod (tCB rInt1 (tCons (tVar 5) tNil)) (tC (.int 65536))) tNil)))
  (tSeq (tDrop (tBM K "list" rAppend (tVar 1) (tCons (tOp xMod (tCB rInt1 (tCons (tOp xDiv (tVar 5) (tC (.int 65536))) tNil)) (tC (.int 32768))) tNil)))
  tNext)))))
  tNext)))
  (tSeq (tRet (tVar 1))
  tNext)))
/-- _law_mix: _law_draws_here 0, _law_k 1, _law_many 2, _law_value 3; level 1 -/
abbrev N_law_mix : List Str := ["_law_draws_here", "_law_k", "_law_many", "_law_value"]
abbrev P_law_mix : List Str := ["_law_draws_here", "_law_k", "_law_many"]
def t_law_mix (K : PySem.W.Frag) : TS := (tSeq (tAsg (tC (.int 0)) (gName 3))
  (tSeq (tIfS (tTest (tOp xGt (tCB (rLen K) (tCons (tVar 0) tNil)) (tC (.int 0)))) (tSeq (tAsg (tOp (rIxL K) (tVar 0) (tOp xMod (tCB rInt1 (tCons (tVar 1) tNil)) (tCB (rLen K) (tCons (tVar 0) tNil)))) (gName 3))
  tNext) tNext)
  (tSeq (tIfS (tTest (tOp xLt (tVar 1) (tCB (rLen K) (tCons (tVar 0) tNil)))) (tSeq (tRet (tOp xMod (tCB rInt1 (tCons (tVar 3) tNil)) (tVar 2)))
  tNext) tNext)
  (tSeq (tRet (tOp xMod (tCB rInt1 (tCons (tOp xDiv (tCB rInt1 (tCons (tOp xAdd (tOp xMul (tVar 3) (tC (.int 7919))) (tOp xMul (tVar 1) (tC (.int 104729)))) tNil)) (tC (.int 3))) tNil)) (tVar 2)))
  tNext))))
/-- _law_powers: _law_seal 0, _law_size 1, _law_count 2, _law_powers_here 3, _law_k 4, _law_rest 5; level 1 -/
abbrev N_law_powers : List Str := ["_law_seal", "_law_size", "_law_count", "_law_powers_here", "_law_k", "_law_rest"]
abbrev P_law_powers : List Str := ["_law_seal", "_law_size", "_law_count"]
def t_law_powers (K : PySem.W.Frag) : TS := (tSeq (tAsg (tLst (tCons (tC (.int 1)) tNil)) (gName 3))
  (tSeq (tFor (iRng1 (tCons (tVar 2) tNil)) (gName 4) (tSeq (tAsg (tOp xMul (tC (.int 2)) (tOp (rIxL K) (tVar 3) (tUn xNeg (tC (.int 1))))) (gName 5))
  (tSeq (tIfS (tTest (tOp rEq (tOp xAnd (tOp xShr (tVar 5) (tVar 1)) (tC (.int 1))) (tC (.int 1)))) (tSeq (tAsg (tOp xXor (tVar 5) (tVar 0)) (gName 5))
  tNext) tNext)
  (tSeq (tDrop (tBM K "list" rAppend (tVar 3) (tCons (tVar 5) tNil)))
  tNext))))
  (tSeq (tRet (tVar 3))
  tNext)))
/-- _law_table: _law_size 0, _law_powers_here 1, _law_prices 2, _law_after 3, _law_layers 4, _law_place 5, _law_layer 6, _law_state 7, _law_best 8, _law_bit 9, _law_rest 10; level 1 -/
abbrev N_law_table : List Str := ["_law_size", "_law_powers_here", "_law_prices", "_law_after", "_law_layers", "_law_place", "_law_layer", "_law_state", "_law_best", "_law_bit", "_law_rest"]
abbrev P_law_table : List Str := ["_law_size", "_law_powers_here", "_law_prices"]
def t_law_table (K : PySem.W.Frag) : TS := (tSeq (tAsg (tOp rCat (tLst (tCons (tC (.int 0)) tNil)) (tOp rRep (tLst (tCons (tC .non) tNil)) (tOp xSub (tOp xShl (tC (.int 1)) (tVar 0)) (tC (.int 1))))) (gName 3))
  (tSeq (tAsg (tLst (tCons (tVar 3) tNil)) (gName 4))
  (tSeq (tFor (iRng3 (tCons (tOp xSub (tCB (rLen K) (tCons (tVar 2) tNil)) (tC (.int 1))) (tCons (tUn xNeg (tC (.int 1))) (tCons (tUn xNeg (tC (.int 1))) tNil)))) (gName 5) (tSeq (tAsg (tLst tNil) (gName 6))
  (tSeq (tFor (iRng1 (tCons (tOp xShl (tC (.int 1)) (tVar 0)) tNil)) (gName 7) (tSeq (tAsg (tC .non) (gName 8))
  (tSeq (tFor (iRng1 (tCons (tC (.int 2)) tNil)) (gName 9) (tSeq (tAsg (tOp (rIxL K) (tVar 3) (tOp xXor (tVar 7) (tOp xMul (tOp (rIxL K) (tVar 1) (tVar 5)) (tVar 9)))) (gName 10))
  (tSeq (tIfS (tAnd (tTest (tOp rIsnt (tVar 10) (tC .non))) (tOr (tTest (tOp rIs (tVar 8) (tC .non))) (tTest (tOp xLt (tOp xAdd (tVar 10) (tOp (rIxT K) (tOp (rIxL K) (tVar 2) (tVar 5)) (tVar 9))) (tVar 8))))) (tSeq (tAsg (tOp xAdd (tVar 10) (tOp (rIxT K) (tOp (rIxL K) (tVar 2) (tVar 5)) (tVar 9))) (gName 8))
  tNext) tNext)
  tNext)))
  (tSeq (tDrop (tBM K "list" rAppend (tVar 6) (tCons (tVar 8) tNil)))
  tNext))))
  (tSeq (tAsg (tVar 6) (gName 3))
  (tSeq (tDrop (tBM K "list" rAppend (tVar 4) (tCons (tVar 6) tNil)))
  tNext)))))
  (tSeq (tRet (tRevL K (tVar 4)))
  tNext))))
/-- _law_goes: _law_layers 0, _law_powers_here 1, _law_prices 2, _law_row 3, _law_state 4, _law_place 5, _law_rest 6, _law_bit 7; level 1 -/
abbrev N_law_goes : List Str := ["_law_layers", "_law_powers_here", "_law_prices", "_law_row", "_law_state", "_law_place", "_law_rest", "_law_bit"]
abbrev P_law_goes : List Str := ["_law_layers", "_law_powers_here", "_law_prices", "_law_row", "_law_state"]
def t_law_goes (K : PySem.W.Frag) : TS := (tSeq (tAsg (tCB (rList K) (tCons (tVar 3) tNil)) (gName 3))
  (tSeq (tFor (iRng2 (tCons (tCB (rLen K) (tCons (tVar 3) tNil)) (tCons (tCB (rLen K) (tCons (tVar 2) tNil)) tNil))) (gName 5) (tSeq (tAsg (tOp (rIxL K) (tOp (rIxL K) (tVar 0) (tOp xAdd (tVar 5) (tC (.int 1)))) (tVar 4)) (gName 6))
  (tSeq (tAsg (tCB rInt1 (tCons (tOrV (tOp rIs (tVar 6) (tC .non)) (tOp rNe (tOp xAdd (tVar 6) (tOp (rIxT K) (tOp (rIxL K) (tVar 2) (tVar 5)) (tC (.int 0)))) (tOp (rIxL K) (tOp (rIxL K) (tVar 0) (tVar 5)) (tVar 4)))) tNil)) (gName 7))
  (tSeq (tDrop (tBM K "list" rAppend (tVar 3) (tCons (tVar 7) tNil)))
  (tSeq (tAsg (tOp xXor (tVar 4) (tOp xMul (tOp (rIxL K) (tVar 1) (tVar 5)) (tVar 7))) (gName 4))
  tNext)))))
  (tSeq (tRet (tVar 3))
  tNext)))
/-- _law_least: _law_size 0, _law_powers_here 1, _law_count 2, _law_prices 3, _law_layers 4, _law_best 5, _law_place 6, _law_rest 7, _law_start 8; level 2 -/
abbrev N_law_least : List Str := ["_law_size", "_law_powers_here", "_law_count", "_law_prices", "_law_layers", "_law_best", "_law_place", "_law_rest", "_law_start"]
abbrev P_law_least : List Str := ["_law_size", "_law_powers_here", "_law_count"]
def t_law_least (K : PySem.W.Frag) : TS := (tSeq (tAsg (tOp rRep (tLst (tCons (tTup (tCons (tC (.int 0)) (tCons (tC (.int 1)) tNil))) tNil)) (tVar 2)) (gName 3))
  (tSeq (tAsg (tCall (FnSp K S_law_table) [] E0 (tCons (tVar 0) (tCons (tVar 1) (tCons (tVar 3) tNil)))) (gName 4))
  (tSeq (tAsg (tC .non) (gName 5))
  (tSeq (tFor (iRng1 (tCons (tVar 2) tNil)) (gName 6) (tSeq (tAsg (tOp (rIxL K) (tOp (rIxL K) (tVar 4) (tOp xAdd (tVar 6) (tC (.int 1)))) (tOp (rIxL K) (tVar 1) (tVar 6))) (gName 7))
  (tSeq (tIfS (tAnd (tTest (tOp rIsnt (tVar 7) (tC .non))) (tOr (tTest (tOp rIs (tVar 5) (tC .non))) (tTest (tOp xLe (tOp xAdd (tVar 7) (tC (.int 1))) (tOp (rIxT K) (tVar 5) (tC (.int 0))))))) (tSeq (tAsg (tTup (tCons (tOp xAdd (tVar 7) (tC (.int 1))) (tCons (tVar 6) tNil))) (gName 5))
  tNext) tNext)
  tNext)))
  (tSeq (tAsg (tOp (rIxT K) (tVar 5) (tC (.int 1))) (gName 8))
  (tSeq (tRet (tTup (tCons (tOp (rIxT K) (tVar 5) (tC (.int 0))) (tCons (tCall (FnSp K S_law_goes) [] E0 (tCons (tVar 4) (tCons (tVar 1) (tCons (tVar 3) (tCons (tOp rCat (tOp rRep (tLst (tCons (tC (.int 0)) tNil)) (tVar 8)) (tLst (tCons (tC (.int 1)) tNil))) (tCons (tOp (rIxL K) (tVar 1) (tVar 8)) tNil)))))) tNil))))
  tNext))))))
/-- _law_profile: _law_size 0, _law_powers_here 1, _law_most 2, _law_weights 3, _law_steps 4, _law_place 5, _law_before 6, _law_state 7, _law_rest 8; level 1 -/
abbrev N_law_profile : List Str := ["_law_size", "_law_powers_here", "_law_most", "_law_weights", "_law_steps", "_law_place", "_law_before", "_law_state", "_law_rest"]
abbrev P_law_profile : List Str := ["_law_size", "_law_powers_here", "_law_most"]
def t_law_profile (K : PySem.W.Frag) : TS := (tSeq (tAsg (tOp rRep (tLst (tCons (tC .non) tNil)) (tOp xShl (tC (.int 1)) (tVar 0))) (gName 3))
  (tSeq (tAsg (tC (.int 1)) (gSub (tVar 3) (tC (.int 1)) rSetL))
  (tSeq (tAsg (tLst tNil) (gName 4))
  (tSeq (tFor (iRng2 (tCons (tC (.int 1)) (tCons (tVar 2) tNil))) (gName 5) (tSeq (tAsg (tCB (rList K) (tCons (tVar 3) tNil)) (gName 6))
  (tSeq (tFor (iRng1 (tCons (tOp xShl (tC (.int 1)) (tVar 0)) tNil)) (gName 7) (tSeq (tAsg (tOp (rIxL K) (tVar 6) (tOp xXor (tVar 7) (tOp (rIxL K) (tVar 1) (tVar 5)))) (gName 8))
  (tSeq (tIfS (tAnd (tTest (tOp rIsnt (tVar 8) (tC .non))) (tOr (tTest (tOp rIs (tOp (rIxL K) (tVar 3) (tVar 7)) (tC .non))) (tTest (tOp xLt (tOp xAdd (tVar 8) (tC (.int 1))) (tOp (rIxL K) (tVar 3) (tVar 7)))))) (tSeq (tAsg (tOp xAdd (tVar 8) (tC (.int 1))) (gSub (tVar 3) (tVar 7) rSetL))
  tNext) tNext)
  tNext)))
  (tSeq (tIfS (tAnd (tTest (tOp rIsnt (tOp (rIxL K) (tVar 3) (tC (.int 0))) (tC .non))) (tOr (tTest (tOp (rEqD K) (tVar 4) (tLst tNil))) (tTest (tOp xLt (tOp (rIxL K) (tVar 3) (tC (.int 0))) (tOp (rIxT K) (tOp (rIxL K) (tVar 4) (tUn xNeg (tC (.int 1)))) (tC (.int 1))))))) (tSeq (tDrop (tBM K "list" rAppend (tVar 4) (tCons (tTup (tCons (tOp xAdd (tVar 5) (tC (.int 1))) (tCons (tOp (rIxL K) (tVar 3) (tC (.int 0))) tNil))) tNil)))
  tNext) tNext)
  tNext))))
  (tSeq (tRet (tVar 4))
  tNext)))))
/-- _law_margin: _law_layers 0, _law_powers_here 1, _law_prices 2, _law_row 3, _law_best 4, _law_state 5, _law_total 6, _law_place 7, _law_other 8, _law_rest 9; level 1 -/
abbrev N_law_margin : List Str := ["_law_layers", "_law_powers_here", "_law_prices", "_law_row", "_law_best", "_law_state", "_law_total", "_law_place", "_law_other", "_law_rest"]
abbrev P_law_margin : List Str := ["_law_layers", "_law_powers_here", "_law_prices", "_law_row"]
def t_law_margin (K : PySem.W.Frag) : TS := (tSeq (tAsg (tC .non) (gName 4))
  (tSeq (tAsg (tC (.int 0)) (gName 5))
  (tSeq (tAsg (tC (.int 0)) (gName 6))
  (tSeq (tFor (iRng1 (tCons (tCB (rLen K) (tCons (tVar 3) tNil)) tNil)) (gName 7) (tSeq (tAsg (tOp xSub (tC (.int 1)) (tOp (rIxL K) (tVar 3) (tVar 7))) (gName 8))
  (tSeq (tAsg (tOp (rIxL K) (tOp (rIxL K) (tVar 0) (tOp xAdd (tVar 7) (tC (.int 1)))) (tOp xXor (tVar 5) (tOp xMul (tOp (rIxL K) (tVar 1) (tVar 7)) (tVar 8)))) (gName 9))
  (tSeq (tIfS (tAnd (tTest (tOp rIsnt (tVar 9) (tC .non))) (tOr (tTest (tOp rIs (tVar 4) (tC .non))) (tTest (tOp xLt (tOp xAdd (tOp xAdd (tVar 6) (tOp (rIxT K) (tOp (rIxL K) (tVar 2) (tVar 7)) (tVar 8))) (tVar 9)) (tVar 4))))) (tSeq (tAsg (tOp xAdd (tOp xAdd (tVar 6) (tOp (rIxT K) (tOp (rIxL K) (tVar 2) (tVar 7)) (tVar 8))) (tVar 9)) (gName 4))
  tNext) tNext)
  (tSeq (tAsg (tOp xAdd (tVar 6) (tOp (rIxT K) (tOp (rIxL K) (tVar 2) (tVar 7)) (tOp (rIxL K) (tVar 3) (tVar 7)))) (gName 6))
  (tSeq (tAsg (tOp xXor (tVar 5) (tOp xMul (tOp (rIxL K) (tVar 1) (tVar 7)) (tOp (rIxL K) (tVar 3) (tVar 7)))) (gName 5))
  tNext))))))
  (tSeq (tRet (tOp xSub (tVar 4) (tVar 6)))
  tNext)))))
/-- _law_received: _law_draws_here 0, _law_size 1, _law_powers_here 2, _law_count 3, _law_row 4, _law_rest 5, _law_k 6, _law_ways 7, _law_way 8; level 2 -/
abbrev N_law_received : List Str := ["_law_draws_here", "_law_size", "_law_powers_here", "_law_count", "_law_row", "_law_rest", "_law_k", "_law_ways", "_law_way"]
abbrev P_law_received : List Str := ["_law_draws_here", "_law_size", "_law_powers_here", "_law_count"]
def t_law_received (K : PySem.W.Frag) : TS := (tSeq (tAsg (tOp rCat (tOp rRep (tLst (tCons (tC (.int 0)) tNil)) (tVar 1)) (tLc (iRng1 (tCons (tOp xSub (tVar 3) (tVar 1)) tNil)) (gName 6) tYes (tCall (FnSp K S_law_mix) [] E0 (tCons (tVar 0) (tCons (tOp xAdd (tC (.int 20)) (tVar 6)) (tCons (tC (.int 2)) tNil)))) [6])) (gName 4))
  (tSeq (tAsg (tC (.int 0)) (gName 5))
  (tSeq (tFor (iRng2 (tCons (tVar 1) (tCons (tVar 3) tNil))) (gName 6) (tSeq (tAsg (tOp xXor (tVar 5) (tOp xMul (tOp (rIxL K) (tVar 2) (tVar 6)) (tOp (rIxL K) (tVar 4) (tVar 6)))) (gName 5))
  tNext))
  (tSeq (tAsg (tOp rCat (tLc (iRng1 (tCons (tVar 1) tNil)) (gName 6) tYes (tOp xAnd (tOp xShr (tVar 5) (tVar 6)) (tC (.int 1))) [6]) (tSl (rSlL K) (tVar 4) (tPart (tVar 1)) tNoPart)) (gName 4))
  (tSeq (tAsg (tOp (rIxL K) (tLst (tCons (tC (.int 40)) (tCons (tC (.int 12)) (tCons (tC (.int 5)) (tCons (tC (.int 2)) tNil))))) (tCall (FnSp K S_law_mix) [] E0 (tCons (tVar 0) (tCons (tC (.int 5)) (tCons (tC (.int 4)) tNil))))) (gName 7))
  (tSeq (tFor (iRng1 (tCons (tVar 3) tNil)) (gName 6) (tSeq (tAsg (tCall (FnSp K S_law_mix) [] E0 (tCons (tVar 0) (tCons (tOp xAdd (tC (.int 400)) (tVar 6)) (tCons (tVar 7) tNil)))) (gName 8))
  (tSeq (tIfS (tTest (tOp xLt (tVar 8) (tC (.int 2)))) (tSeq (tAsg (tOp (rIxL K) (tLst (tCons (tOp xSub (tC (.int 1)) (tOp (rIxL K) (tVar 4) (tVar 6))) (tCons (tC .non) tNil))) (tOp xMul (tVar 8) (tCB rInt1 (tCons (tOp rEq (tCall (FnSp K S_law_mix) [] E0 (tCons (tVar 0) (tCons (tOp xAdd (tC (.int 401)) (tVar 6)) (tCons (tC (.int 3)) tNil)))) (tC (.int 1))) tNil)))) (gSub (tVar 4) (tVar 6) rSetL))
  tNext) tNext)
  tNext)))
  (tSeq (tRet (tVar 4))
  tNext)))))))
/-- law: _law_script 0, _law_draws_here 1, _law_size 2, _law_seal 3, _law_count 4, _law_powers_here 5, _law_due 6, _law_told 7, _law_received_here 8, _law_kept 9, _law_prices 10, _law_layers 11, _law_row 12, _law_answer 13, _law_bit 14; level 6 -/
abbrev N_law : List Str := ["_law_script", "_law_draws_here", "_law_size", "_law_seal", "_law_count", "_law_powers_here", "_law_due", "_law_told", "_law_received_here", "_law_kept", "_law_prices", "_law_layers", "_law_row", "_law_answer", "_law_bit"]
abbrev P_law : List Str := ["_law_script"]
def t_law (K : PySem.W.Frag) : TS := (tSeq (tAsg (tCall (FnSp K S_law_draws) [] E0 (tCons (tVar 0) tNil)) (gName 1))
  (tSeq (tAsg (tOp xAdd (tC (.int 1)) (tCall (FnSp K S_law_mix) [] E0 (tCons (tVar 1) (tCons (tC (.int 0)) (tCons (tC (.int 8)) tNil))))) (gName 2))
  (tSeq (tAsg (tOp xAdd (tOp xAdd (tOp xShl (tC (.int 1)) (tVar 2)) (tC (.int 1))) (tOp xMul (tC (.int 2)) (tCall (FnSp K S_law_mix) [] E0 (tCons (tVar 1) (tCons (tC (.int 1)) (tCons (tOp xShl (tC (.int 1)) (tOp xSub (tVar 2) (tC (.int 1)))) tNil)))))) (gName 3))
  (tSeq (tAsg (tOp xAdd (tOp xAdd (tVar 2) (tC (.int 1))) (tCall (FnSp K S_law_mix) [] E0 (tCons (tVar 1) (tCons (tC (.int 2)) (tCons (tOp (rIxL K) (tLst (tCons (tOp xSub (tC (.int 90)) (tVar 2)) (tCons (tOp xSub (tC (.int 90)) (tVar 2)) (tCons (tOp xSub (tC (.int 90)) (tVar 2)) (tCons (tOp xSub (tC (.int 300)) (tVar 2)) tNil))))) (tCall (FnSp K S_law_mix) [] E0 (tCons (tVar 1) (tCons (tC (.int 3)) (tCons (tC (.int 4)) tNil))))) tNil))))) (gName 4))
  (tSeq (tAsg (tCall (FnSp K S_law_powers) [] E0 (tCons (tVar 3) (tCons (tVar 2) (tCons (tVar 4) tNil)))) (gName 5))
  (tSeq (tAsg (tCall (FnSp K S_law_least) [] E0 (tCons (tVar 2) (tCons (tVar 5) (tCons (tVar 4) tNil)))) (gName 6))
  (tSeq (tAsg (tCall (FnSp K S_least_unseen) [] E0 (tCons (tVar 3) (tCons (tVar 4) tNil))) (gName 7))
  (tSeq (tIfS (tOr (tTest (tOp (rNeD K) (tVar 7) (tVar 6))) (tTest (tOp rNotB (tCall (FnSp K S_check_unseen) [] E0 (tCons (tVar 3) (tCons (tVar 4) (tCons (tOp (rIxT K) (tVar 7) (tC (.int 0))) (tCons (tOp (rIxT K) (tVar 7) (tC (.int 1))) (tCons (tCall (FnSp K S_state_paper) [] E0 (tCons (tVar 3) (tCons (tVar 4) tNil))) tNil)))))) (tC (.bl true))))) (tSeq (tRet (tC (.bl false)))
  tNext) tNext)
  (tSeq (tIfS (tTest (tOp (rNeD K) (tCall (FnSp K S_profile) [] E0 (tCons (tVar 3) (tCons (tVar 4) tNil))) (tCall (FnSp K S_law_profile) [] E0 (tCons (tVar 2) (tCons (tVar 5) (tCons (tVar 4) tNil)))))) (tSeq (tRet (tC (.bl false)))
  tNext) tNext)
  (tSeq (tAsg (tCall (FnSp K S_law_received) [] E0 (tCons (tVar 1) (tCons (tVar 2) (tCons (tVar 5) (tCons (tVar 4) tNil))))) (gName 8))
  (tSeq (tAsg (tCB (rList K) (tCons (tVar 8) tNil)) (gName 9))
  (tSeq (tAsg (tLc (iList K (tVar 8)) (gName 14) tYes (tTup (tCons (tCB rInt1 (tCons (tOp rEq (tVar 14) (tC (.int 1))) tNil)) (tCons (tCB rInt1 (tCons (tOp rEq (tVar 14) (tC (.int 0))) tNil)) tNil))) [14]) (gName 10))
  (tSeq (tAsg (tCall (FnSp K S_law_table) [] E0 (tCons (tVar 2) (tCons (tVar 5) (tCons (tVar 10) tNil)))) (gName 11))
  (tSeq (tAsg (tCall (FnSp K S_law_goes) [] E0 (tCons (tVar 11) (tCons (tVar 5) (tCons (tVar 10) (tCons (tLst tNil) (tCons (tC (.int 0)) tNil)))))) (gName 12))
  (tSeq (tAsg (tCall (FnSp K S_nearest) [] E0 (tCons (tVar 3) (tCons (tVar 8) tNil))) (gName 13))
  (tSeq (tIfS (tOr (tTest (tOp (rNeD K) (tOp (rIxT K) (tVar 13) (tC (.int 0))) (tVar 12))) (tOr (tTest (tOp rNe (tOp (rIxT K) (tVar 13) (tC (.int 1))) (tOp (rIxL K) (tOp (rIxL K) (tVar 11) (tC (.int 0))) (tC (.int 0))))) (tTest (tOp (rNeD K) (tVar 8) (tVar 9))))) (tSeq (tRet (tC (.bl false)))
  tNext) tNext)
  (tSeq (tIfS (tTest (tOp rNotB (tCall (FnSp K S_check_nearest) [] E0 (tCons (tVar 3) (tCons (tVar 8) (tCons (tVar 12) (tCons (tOp (rIxT K) (tVar 13) (tC (.int 1))) (tCons (tOp (rIxT K) (tVar 13) (tC (.int 2))) tNil)))))) (tC (.bl true)))) (tSeq (tRet (tC (.bl false)))
  tNext) tNext)
  (tSeq (tRet (tOp rEq (tCall (FnSp K S_margin) [] E0 (tCons (tVar 3) (tCons (tVar 8) tNil))) (tCall (FnSp K S_law_margin) [] E0 (tCons (tVar 11) (tCons (tVar 5) (tCons (tVar 10) (tCons (tVar 12) tNil)))))))
  tNext))))))))))))))))))

local macro_rules | `(tactic| walk_at "wk1") => `(tactic| first
  | with_reducible exact Wk.nil
  | (with_reducible refine Wk.same ?_; walk_at "wk1")
  | (with_reducible refine Wk.no ?_; walk_at "wk1")
  | (refine Wk.is ?_ ?_; rotate_left; walk_at "wk1"))
local macro_rules | `(tactic| walk_at "wk") => `(tactic| (try dsimp only [List.set_cons_succ, List.set_cons_zero]); walk_at "wk1")

/-! ## sat1 -/
theorem sat_degree (K : PySem.W.Frag) : ∀ ds d, S_degree ds d → Sat K (t_degree K) (entry N_degree ds) (fun _ => d = .none) d := by
  rintro ds d ⟨r, g, h, rfl, rfl⟩
  show Sat K (t_degree K) [.im (iD g), .no] _ _
  unfold t_degree
  refine q_seq (s_asg (i_neg evd_int) ?_)
  refine q_seq (s_while (r + 1) (fun i => [.im (iD (g / 2 ^ i)), .im (.int ((i : Int) - 1))]) ?w (fun i hi => ?c) (fun i hi => ?b) ?d)
  case w =>
    walk_at "wk"
    · rw [Nat.pow_zero, Nat.div_one]
    · rfl
  case c =>
    refine (i_gt (dv 0) evd_int).eq ?_
    by_cases e : i < r + 1
    · have h1 : 2 ^ i ≤ 2 ^ r := Nat.pow_le_pow_right (by decide) (by omega)
      have h2 : 1 ≤ g / 2 ^ i := (Nat.le_div_iff_mul_le (Nat.two_pow_pos i)).mpr (by have := h.lo; omega)
      rw [decide_eq_true e, decide_eq_true (by omega)]
    · have e2 : i = r + 1 := by omega
      rw [decide_eq_false e, e2, Nat.div_eq_of_lt h.hi]
      rfl
  case b =>
    refine q_seq (s_asg (n_shr (dv 0) (c_nat 1)) ?_)
    refine q_seq (s_aug (a := (i : Int) - 1) (b := 1) rfl evd_int ?_)
    refine s_next ?_
    walk_at "wk"
    · rw [Nat.div_div_eq_div_mul, ← Nat.pow_succ]
    · exact congrArg (fun z => Ent.im (.int z)) (by omega)
  case d =>
    exact q_seq (s_ret ((dv 1).eq (congrArg PyData.int (by omega))))
theorem sat_rest_of (K : PySem.W.Frag) : ∀ ds d, S_rest_of ds d → Sat K (t_rest_of K) (entry N_rest_of ds) (fun _ => d = .none) d := by
  rintro ds d ⟨r, g, bs, h, hb, hn, rfl, rfl⟩
  show Sat K (t_rest_of K) [.im (iD g), .im (natsD bs), .no, .no, .no] _ _
  unfold t_rest_of
  refine q_seq (s_asg (evd_call (a1 (dv 0)) ⟨r, g, h, rfl, rfl⟩) ?_)
  refine q_seq (s_asg (c_nat 0) ?_)
  refine q_seq (s_for3 (n := bs.length) (a_down (n_len (lv 1))) (by omega) (fun i => [.im (iD g), .im (natsD bs), .im (iD r), .im (iD (rst r g (bs.drop (bs.length - i)))), .no]) ?w (fun i hi => ?b) ?d)
  case w =>
    walk_at "wk"
    rw [Nat.sub_zero, List.drop_length]
    rfl
  case b =>
    have hk : bs.length - 1 - i < bs.length := by omega
    obtain ⟨b, hbk⟩ : ∃ b, bs[bs.length - 1 - i]? = some b := ⟨_, List.getElem?_eq_getElem hk⟩
    have hb2 : b < 2 := hb b (List.mem_of_getElem? hbk)
    have ed : bs.drop (bs.length - (i + 1)) = b :: bs.drop (bs.length - i) := by
      have e1 : bs.length - (i + 1) = bs.length - 1 - i := by omega
      have e2 : bs.length - i = bs.length - 1 - i + 1 := by omega
      rw [e1, e2, List.drop_eq_getElem_cons hk]
      have e3 := List.getElem?_eq_getElem hk
      rw [hbk] at e3
      rw [← Option.some.inj e3]
    have hr : rst r g (bs.drop (bs.length - i)) < 2 ^ r := rst_lt h _ fun x hx => hb x (List.mem_of_mem_drop hx)
    have h8 := pow8 h.r8
    have key : rst r g (bs.drop (bs.length - (i + 1))) = red r g ((2 * rst r g (bs.drop (bs.length - i))) ^^^ b) := by
      rw [ed]
      rfl
    refine q_seq (s_asg (n_xor (n_dbl (dv 3) (by omega)) (evd_ix (d := iD b) (lv 1) (dv 4) (atI_nat (by rw [List.getElem?_map, hbk]; rfl)))) ?_)
    refine q_seq (s_if (t_red (dv 3) (dv 2)) (fun z => q_seq (s_asg (n_xor (dv 3) (dv 0)) (s_next (s_next ?_)))) fun z => s_next (s_next ?_))
    · walk_at "wk"
      rw [key]
      unfold red
      rw [if_pos (of_decide_eq_true z)]
    · walk_at "wk"
      rw [key]
      unfold red
      rw [if_neg (of_decide_eq_false z)]
  case d =>
    refine q_seq (s_ret ((dv 3).eq ?_))
    rw [Nat.sub_self]
    rfl
theorem sat_powers_of_x (K : PySem.W.Frag) : ∀ ds d, S_powers_of_x ds d → Sat K (t_powers_of_x K) (entry N_powers_of_x ds) (fun _ => d = .none) d := by
  rintro ds d ⟨r, g, n, h, hn, rfl, rfl⟩
  show Sat K (t_powers_of_x K) [.im (iD g), .im (iD n), .no, .no, .no, .no] _ _
  unfold t_powers_of_x
  refine q_seq (s_asg (evd_call (a1 (dv 0)) ⟨r, g, h, rfl, rfl⟩) ?_)
  refine q_seq (s_asgF (evf_lst eva_nil (by decide)) ?_)
  refine q_seq (s_asg (c_nat 1) ?_)
  refine q_seq (s_for1 (n := n) (a1 (dv 1)) (by omega) (fun i => [.im (iD g), .im (iD n), .im (iD r), .ow ((List.range i).map fun k => iD (pw r g k)), .im (iD (match i with | 0 => 1 | k + 1 => 2 * pw r g k)), .no]) ?w (fun i hi => ?b) ?d)
  case w =>
    walk_at "wk"
    rfl
  case b =>
    -- the power at turn i, before and behind the reduction
    have key : ∀ i, red r g (match i with | 0 => 1 | k + 1 => 2 * pw r g k) = pw r g i := by
      intro i
      cases i with
      | zero => exact red_0 (pw_lt h 0)
      | succ k => rfl
    have key := key i
    revert key
    generalize (match i with | 0 => 1 | k + 1 => 2 * pw r g k) = x
    intro key
    have h8 := pow8 h.r8
    have hp := pw_lt h i
    refine q_seq (s_if (t_red (dv 4) (dv 2)) (fun z => q_seq (s_asg ((n_xor (dv 4) (dv 0)).eq (d := iD (x ^^^ g)) (e := iD (pw r g i)) ?e1) (s_next ?_))) fun z => s_weak (G' := [.im (iD g), .im (iD n), .im (iD r), .ow ((List.range i).map fun k => iD (pw r g k)), .im (iD (pw r g i)), .no]) ?e2 (s_next ?_))
    case e1 =>
      unfold red at key
      rw [if_pos (of_decide_eq_true z)] at key
      rw [key]
    case e2 =>
      unfold red at key
      rw [if_neg (of_decide_eq_false z)] at key
      rw [key]
      walk_at "wk"
    · refine q_seq (s_app (ds := (List.range i).map fun k => iD (pw r g k)) rfl (dv 4) (by rw [len_rng]; omega) ?_)
      refine q_seq (s_asg (n_dbl (dv 4) (by omega)) (s_next ?_))
      walk_at "wk"
      rw [rng_succ]
    · refine q_seq (s_app (ds := (List.range i).map fun k => iD (pw r g k)) rfl (dv 4) (by rw [len_rng]; omega) ?_)
      refine q_seq (s_asg (n_dbl (dv 4) (by omega)) (s_next ?_))
      walk_at "wk"
      rw [rng_succ]
  case d => exact q_seq (s_retO rfl)

/-! ## sat2 -/
theorem tab_last (c0 c1 : Nat → Int) (P : Nat → Nat) (n s : Nat) : tab c0 c1 P n n s = fin0 s := by
  unfold tab
  rw [Nat.sub_self]
  rfl
theorem tab_step (c0 c1 : Nat → Int) (P : Nat → Nat) {n k : Nat} (h : k < n) (s : Nat) : tab c0 c1 P n k s = cmb (c0 k) (c1 k) (tab c0 c1 P n (k + 1)) (P k) s := by
  unfold tab
  have e : n - k = (n - (k + 1)) + 1 := by omega
  have e2 : n - (n - (k + 1) + 1) = k := by omega
  rw [e]
  show cmb (c0 (n - (n - (k + 1) + 1))) (c1 (n - (n - (k + 1) + 1))) (bk c0 c1 P n (n - (k + 1))) (P (n - (n - (k + 1) + 1))) s = _
  rw [e2]
theorem fin_lay (r : Nat) : PyData.list ([PyData.int 0] ++ (List.replicate (((2 ^ r : Nat) : Int) - 1).toNat [PyData.none]).flatten) = layD r fin0 := by
  have hp := Nat.two_pow_pos r
  unfold layD
  refine congrArg PyData.list ?_
  have e : (((2 ^ r : Nat) : Int) - 1).toNat = 2 ^ r - 1 := by omega
  rw [e, rep_rng]
  obtain ⟨m, hm⟩ : ∃ m, 2 ^ r = m + 1 := ⟨2 ^ r - 1, by omega⟩
  rw [hm, Nat.add_sub_cancel, List.range_succ_eq_map, List.map_cons, List.map_map]
  rfl
theorem sat_check_seal (K : PySem.W.Frag) : ∀ ds d, S_check_seal ds d → Sat K (t_check_seal K) (entry N_check_seal ds) (fun _ => d = .none) d := by
  rintro ds d ⟨r, g, h, rfl, rfl⟩
  show Sat K (t_check_seal K) [.im (iD g), .im (.int 8)] _ _
  unfold t_check_seal
  refine q_seq (s_ifF ?c (s_next (s_next rfl)))
  refine (evt_or (i_lt (dv 0) evd_int) fun _ => evt_or (evt_not (evt_test (evd_chain (d := .int 1) (e := iD r) (f := .int 8) (k' := decide ((r : Int) ≤ 8)) evd_int (evd_call (a1 (dv 0)) ⟨r, g, h, rfl, rfl⟩) (rd_0 fun _ => .bl _) fun _ => ⟨dv 1, rd_0 fun _ => .bl _⟩))) fun _ => n_eq (n_and1 (dv 0)) (c_nat 0)).eq ?_
  have h1 := h.r1
  have h8 := h.r8
  have ho := h.odd
  rw [decide_eq_false (by omega), decide_eq_true (show (1 : Int) ≤ (r : Int) by omega), decide_eq_true (show (r : Int) ≤ 8 by omega), decide_eq_false (show ¬ g % 2 = 0 by omega)]
  rfl
theorem sat_check_rows (K : PySem.W.Frag) : ∀ ds d, S_check_rows ds d → Sat K (t_check_rows K) (entry N_check_rows ds) (fun _ => d = .none) d := by
  rintro ds d ⟨r, g, n, h, h1, h2, rfl, rfl⟩
  show Sat K (t_check_rows K) [.im (iD g), .im (iD n)] _ _
  unfold t_check_rows
  refine q_seq (s_drop (evd_call (a2 (dv 0) evd_int) ⟨r, g, h, rfl, rfl⟩) ?_)
  refine q_seq (s_ifF ?c (s_next (s_next rfl)))
  refine (evt_not (evt_test (evd_chain (d := iD r) (e := iD n) (f := .int 300) (k' := decide ((n : Int) ≤ 300)) (evd_call (a1 (dv 0)) ⟨r, g, h, rfl, rfl⟩) (dv 1) (rd_0 fun _ => .bl _) fun _ => ⟨evd_int, rd_0 fun _ => .bl _⟩))).eq ?_
  rw [decide_eq_true (show (r : Int) < (n : Int) by omega), decide_eq_true (show (n : Int) ≤ 300 by omega)]
  rfl
theorem sat_states_of (K : PySem.W.Frag) : ∀ ds d, S_states_of ds d → Sat K (t_states_of K) (entry N_states_of ds) (fun _ => d = .none) d := by
  rintro ds d ⟨r, g, h, rfl, rfl⟩
  show Sat K (t_states_of K) [.im (iD g)] _ _
  unfold t_states_of
  have h8 := h.r8
  exact q_seq (s_ret ((n_shl (c_nat 1) (evd_call (a1 (dv 0)) ⟨r, g, h, rfl, rfl⟩) (by decide) (by omega)).eq (congrArg iD (Nat.one_mul _))))
theorem sat_least_of (K : PySem.W.Frag) : ∀ ds d, S_least_of ds d → Sat K (t_least_of K) (entry N_least_of ds) (fun _ => d = .none) d := by
  rintro ds d ⟨r, c0, c1, f, s, p, hs, hp, h8, rfl, rfl⟩
  show Sat K (t_least_of K) [.im (.tuple [.int c0, .int c1]), .im (layD r f), .im (iD s), .im (iD p), .no, .no, .no] _ _
  unfold t_least_of
  have hr := pow8 h8
  refine q_seq (s_asgF (evf_lst eva_nil (by decide)) ?_)
  have step : ∀ (b : Nat) (l : List Int) (ri : PyData), b < 2 → l.length < 10 →
      Sat K (tSeq (tAsg (tOp (rIxL K) (tVar 1) (tOp xXor (tVar 2) (tOp xMul (tVar 3) (tVar 5)))) (gName 6))
  (tSeq (tIfS (tTest (tOp rIsnt (tVar 6) (tC .non))) (tSeq (tDrop (tBM K "list" rAppend (tVar 4) (tCons (tOp xAdd (tVar 6) (tOp (rIxT K) (tVar 0) (tVar 5))) tNil)))
  tNext) tNext)
  tNext)) [.im (.tuple [.int c0, .int c1]), .im (layD r f), .im (iD s), .im (iD p), .ow (l.map .int), .im (iD b), .no]
        (fun G => Wk G [.im (.tuple [.int c0, .int c1]), .im (layD r f), .im (iD s), .im (iD p), .ow ((l ++ (oadd (f (s ^^^ (p * b))) (if b = 0 then c0 else c1)).toList).map .int), .no, .no]) ri := by
    intro b l ri hb hl
    have hpb : p * b < 2 ^ r := by
      rcases b with _ | _ | b
      · rw [Nat.mul_zero]; exact Nat.two_pow_pos r
      · rw [Nat.zero_add, Nat.mul_one]; exact hp
      · omega
    refine q_seq (s_asg (x_lay (dv 1) (n_xor (dv 2) (n_mul (dv 3) (dv 5) (by omega))) (xor_lt hs hpb)) ?_)
    generalize f (s ^^^ (p * b)) = o
    cases o with
    | none =>
      refine q_seq (s_ifF (t_isntN (dv 6)) (s_next (s_next ?_)))
      walk_at "wk"
      show Ent.ow _ = Ent.ow (List.map PyData.int (l ++ []))
      rw [List.append_nil]
    | some x =>
      refine q_seq (s_ifT (t_isntS (dv 6)) (q_seq (s_app (ds := l.map .int) rfl (i_add (i := x) (dv 6) (x_2 (dv 0) (dv 5) hb)) (by rw [List.length_map]; omega) (s_next (s_next ?_)))))
      walk_at "wk"
      show Ent.ow _ = Ent.ow (List.map PyData.int (l ++ [x + if b = 0 then c0 else c1]))
      rw [List.map_append]
      rfl
  refine q_seq (s_forT (ds := [.int 0, .int 1]) (evd_tup (a2 evd_int evd_int) (by decide))
    (fun i => [.im (.tuple [.int c0, .int c1]), .im (layD r f), .im (iD s), .im (iD p), .ow (List.map PyData.int (match i with | 0 => [] | 1 => (oadd (f s) c0).toList | _ => (oadd (f s) c0).toList ++ (oadd (f (s ^^^ p)) c1).toList)), .no, .no]) ?w (fun i d hd => ?b) ?e)
  case w => walk_at "wk"; rfl
  case b =>
    rcases i with _ | _ | i
    · have hd : d = .int 0 := (Option.some.inj hd).symm
      subst hd
      refine s_conseq (step 0 [] _ (by decide) (by decide)) fun G w => ?_
      rw [Nat.mul_zero, Nat.xor_zero] at w
      exact w
    · have hd : d = .int 1 := (Option.some.inj hd).symm
      subst hd
      refine s_conseq (step 1 (oadd (f s) c0).toList _ (by decide) (by cases oadd (f s) c0 <;> simp)) fun G w => ?_
      rw [Nat.mul_one] at w
      exact w
    · cases hd
  case e =>
    refine q_seq (s_ret ?_)
    show EvD K _ [.im (.tuple [.int c0, .int c1]), .im (layD r f), .im (iD s), .im (iD p), .ow (List.map PyData.int ((oadd (f s) c0).toList ++ (oadd (f (s ^^^ p)) c1).toList)), .no, .no] _
    unfold cmb
    generalize oadd (f s) c0 = A
    generalize oadd (f (s ^^^ p)) c1 = B
    cases A with
    | none =>
      cases B with
      | none => exact e_ifF (t_emp (ov 4)) evd_non
      | some b => exact e_ifT (t_ne (ov 4)) (evd_min (ns := [b]) (ov 4) List.mem_cons_self (fun y hy => by rw [List.mem_singleton.mp hy]; exact Int.le_refl _))
    | some a =>
      cases B with
      | none => exact e_ifT (t_ne (ov 4)) (evd_min (ns := [a]) (ov 4) List.mem_cons_self (fun y hy => by rw [List.mem_singleton.mp hy]; exact Int.le_refl _))
      | some b =>
        refine e_ifT (t_ne (ov 4)) (evd_min (ns := [a, b]) (m := if b < a then b else a) (ov 4) ?_ (fun y hy => ?_))
        · split
          · exact List.mem_cons_of_mem _ List.mem_cons_self
          · exact List.mem_cons_self
        · rcases List.mem_cons.mp hy with e | e
          · split <;> omega
          · have e := List.mem_singleton.mp e
            split <;> omega
theorem sat_lowest_paper (K : PySem.W.Frag) : ∀ ds d, S_lowest_paper ds d → Sat K (t_lowest_paper K) (entry N_lowest_paper ds) (fun _ => d = .none) d := by
  rintro ds d ⟨r, g, n, c0, c1, h, hn, rfl, rfl⟩
  show Sat K (t_lowest_paper K) [.im (iD g), .im (priD c0 c1 n), .no, .no, .no, .no, .no] _ _
  unfold t_lowest_paper
  have h8 := pow8 h.r8
  have hp := Nat.two_pow_pos r
  refine q_seq (s_asg (evd_call (a2 (dv 0) (n_lenR (lv 1))) ⟨r, g, n, h, by omega, rfl, rfl⟩) ?_)
  refine q_seq (s_asgF (ds := [layD r fin0]) (evf_lst (a1 ((evf_cat (ds := [.int 0]) (evf_lst (a1 evd_int) (by decide)) (evf_rep (ds := [.none]) (k := ((2 ^ r : Nat) : Int) - 1) (evf_lst (a1 evd_non) (by decide)) (i_sub (evd_call (a1 (dv 0)) ⟨r, g, h, rfl, rfl⟩) evd_int) (by omega) (by omega) ?l1) ?l2).toD.eq (fin_lay r))) (Nat.le_of_ble_eq_true rfl)) ?_)
  case l1 =>
    show 1 * _ ≤ _
    omega
  case l2 =>
    rw [rep_rng, len_rng]
    show 1 + _ ≤ _
    omega
  refine q_seq (s_for3 (n := n) (a_down (n_lenR (lv 1))) (by omega) (fun i => [.im (iD g), .im (priD c0 c1 n), .im (powD (pw r g) n), .ow ((List.range (i + 1)).map fun j => layD r (bk c0 c1 (pw r g) n j)), .no, .no, .no]) ?w (fun i hi => ?b) ?d)
  case w => walk_at "wk"; rfl
  case b =>
    have ek : n - 1 - i = n - (i + 1) := by omega
    have hk : n - 1 - i < n := by omega
    refine q_seq (s_asgF (ds := (List.range (2 ^ r)).map fun s => oD (bk c0 c1 (pw r g) n (i + 1) s)) (evf_lcR1 (n := 2 ^ r) (fun s => oD (bk c0 c1 (pw r g) n (i + 1) s)) (a1 (evd_call (a1 (dv 0)) ⟨r, g, h, rfl, rfl⟩)) (by omega) fun s hs => ?_) ?_)
    · refine evd_call (a4 (x_pri (dv 1) (dv 4) hk) (evd_ix (d := layD r (bk c0 c1 (pw r g) n i)) (ov 3) (i_neg evd_int) (at_last (k := i) len_rng ?_)) (dv 6) (x_pow rfl (dv 4) hk)) ⟨r, c0 (n - 1 - i), c1 (n - 1 - i), bk c0 c1 (pw r g) n i, s, pw r g (n - 1 - i), hs, pw_lt h _, h.r8, rfl, ?_⟩
      · rw [List.getElem?_map, List.getElem?_range (by omega)]
        rfl
      · show oD (cmb (c0 (n - (i + 1))) (c1 (n - (i + 1))) (bk c0 c1 (pw r g) n i) (pw r g (n - (i + 1))) s) = _
        rw [ek]
    · refine s_freeze (i := 5) rfl (q_seq (s_app (ds := (List.range (i + 1)).map fun j => layD r (bk c0 c1 (pw r g) n j)) rfl (dv 5) (by rw [len_rng]; omega) (s_next ?_)))
      walk_at "wk"
      rw [rng_succ (n := i + 1)]
      rfl
  case d =>
    refine q_seq (s_rev (ds := (List.range (n + 1)).map fun j => layD r (bk c0 c1 (pw r g) n j)) rfl ?_)
    have e : papD r (tab c0 c1 (pw r g) n) n = .list ((List.range (n + 1)).map fun j => layD r (bk c0 c1 (pw r g) n j)).reverse := by
      rw [rng_rev]
      rfl
    rw [e]
    exact q_seq (s_retO rfl)

/-! ## sat3 -/
theorem all_true {α : Type} (l : List α) : (l.map fun _ => true).all id = true := by
  rw [List.all_map]
  exact List.all_eq_true.mpr fun _ _ => rfl
theorem low_cmb {c0 c1 : Int} {f : Nat → Option Int} {p s : Nat} : cmb c0 c1 f p s = cmb c0 c1 f p s := rfl
theorem sat_is_bound (K : PySem.W.Frag) : ∀ ds d, S_is_bound ds d → Sat K (t_is_bound K) (entry N_is_bound ds) (fun _ => d = .none) d := by
  rintro ds d ⟨r, g, n, c0, c1, h, hn, rfl, rfl⟩
  have h8 := pow8 h.r8
  have hp := Nat.two_pow_pos r
  generalize hT : tab c0 c1 (pw r g) n = T
  have Tl : T n 0 = some 0 := by
    rw [← hT, tab_last]
    rfl
  have Ts : ∀ k s, k < n → T k s = cmb (c0 k) (c1 k) (T (k + 1)) (pw r g k) s := by
    intro k s hk
    rw [← hT]
    exact tab_step c0 c1 (pw r g) hk s
  show Sat K (t_is_bound K) [.im (iD g), .im (priD c0 c1 n), .im (papD r T n), .no, .no, .no, .no, .no, .no, .no] _ _
  unfold t_is_bound
  refine q_seq (s_asg (n_lenR (lv 1)) ?_)
  refine q_seq (s_ifF (evt_orF ((i_ne (n_lenR (lv 2)) (n_add (dv 3) (c_nat 1))).eq ?q1) ((evt_not (evt_B (evd_all (bs := (List.range (n + 1)).map fun _ => true) ?q2))).eq ?q3)) (s_next ?_))
  case q1 =>
    rw [decide_eq_true rfl]
    rfl
  case q2 =>
    refine (EvF.toO (evf_lcL1 (l := List.range (n + 1)) (fun k => layD r (T k)) (fun _ => .bool true) (lv 2) (by rw [List.length_range]; omega) fun k hk => ?_)).eq ?_
    · refine (evd_op (n_lenR (lv 9)) (evd_call (a1 (dv 0)) ⟨r, g, h, rfl, rfl⟩) (rd_eqI _ _)).eq ?_
      rw [decide_eq_true rfl]
    · rw [List.map_map]
      rfl
  case q3 =>
    rw [all_true]
    rfl
  refine q_seq (s_ifF (evt_orF (t_isS (x := 0) ((x_lay (x_pap (dv 2) (dv 3) (Nat.le_refl n)) (c_nat 0) hp).eq (by rw [Tl]; rfl))) ((i_gt (i := 0) ((x_lay (x_pap (dv 2) (dv 3) (Nat.le_refl n)) (c_nat 0) hp).eq (by rw [Tl]; rfl)) evd_int).eq rfl)) (s_next ?_))
  refine q_seq (s_asg (evd_call (a2 (dv 0) (dv 3)) ⟨r, g, n, h, by omega, rfl, rfl⟩) ?_)
  refine q_seq (s_for1 (n := n) (a1 (dv 3)) (by omega) (fun _ => [.im (iD g), .im (priD c0 c1 n), .im (papD r T n), .im (iD n), .im (powD (pw r g) n), .no, .no, .no, .no, .no]) ?w (fun k hk => ?b) ?d)
  case w => walk_at "wk"
  case b =>
    refine q_seq (s_for1 (n := 2 ^ r) (a1 (evd_call (a1 (dv 0)) ⟨r, g, h, rfl, rfl⟩)) (by omega) (fun _ => [.im (iD g), .im (priD c0 c1 n), .im (papD r T n), .im (iD n), .im (powD (pw r g) n), .im (iD k), .no, .no, .no, .no]) ?w2 (fun s hs => ?b2) ?d2)
    case w2 => walk_at "wk"
    case b2 =>
      refine q_seq (s_asg (evd_call (a4 (x_pri (dv 1) (dv 5) hk) (x_pap (dv 2) (n_add (dv 5) (c_nat 1)) (by omega)) (dv 6) (x_pow rfl (dv 5) hk)) ⟨r, c0 k, c1 k, T (k + 1), s, pw r g k, hs, pw_lt h k, h.r8, rfl, rfl⟩) ?_)
      refine q_seq (s_asg (x_lay (x_pap (dv 2) (dv 5) (by omega)) (dv 6) hs) ?_)
      rw [← Ts k s hk]
      generalize T k s = o
      cases o with
      | none =>
        refine q_seq (s_ifF (evt_andF (t_isntN (dv 7))) (s_next (s_next ?_)))
        walk_at "wk"
      | some x =>
        refine q_seq (s_ifF (evt_andT (t_isntS (x := x) (dv 7)) (evt_orF (t_isS (x := x) (dv 8)) ((i_gt (i := x) (j := x) (dv 8) (dv 7)).eq (decide_eq_false (Int.lt_irrefl x))))) (s_next (s_next ?_)))
        walk_at "wk"
    case d2 =>
      refine s_next ?_
      walk_at "wk"
  case d => exact q_seq (s_ret evd_bl)
theorem pri_c (n : Nat) : PyData.list ((List.replicate ((n : Int)).toNat [PyData.tuple [.int 0, .int 1]]).flatten) = priD c00 c11 n := by
  rw [Int.toNat_natCast, rep_rng]
  rfl
theorem e_unit {K : PySem.W.Frag} {G : List Ent} {tb : TE} {n : Nat} (h : EvD K tb G (iD n)) (hn : n ≤ 300) : EvD K (tOp rRep (tLst (tCons (tTup (tCons (tC (.int 0)) (tCons (tC (.int 1)) tNil))) tNil)) tb) G (priD c00 c11 n) :=
  (EvF.toD (evf_rep (ds := [.tuple [.int 0, .int 1]]) (k := (n : Int)) (evf_lst (a1 (evd_tup (a2 evd_int evd_int) (by decide))) (by decide)) h (by omega) (by omega) (by show 1 * _ ≤ _; omega))).eq (pri_c n)
theorem sat_state_paper (K : PySem.W.Frag) : ∀ ds d, S_state_paper ds d → Sat K (t_state_paper K) (entry N_state_paper ds) (fun _ => d = .none) d := by
  rintro ds d ⟨r, g, n, h, h1, h2, rfl, rfl⟩
  show Sat K (t_state_paper K) [.im (iD g), .im (iD n)] _ _
  unfold t_state_paper
  refine q_seq (s_drop (evd_call (a2 (dv 0) (dv 1)) ⟨r, g, n, h, h1, h2, rfl, rfl⟩) ?_)
  exact q_seq (s_ret (evd_call (a2 (dv 0) (e_unit (dv 1) h2)) ⟨r, g, n, c00, c11, h, h2, rfl, rfl⟩))
theorem sat_beginnings (K : PySem.W.Frag) : ∀ ds d, S_beginnings ds d → Sat K (t_beginnings K) (entry N_beginnings ds) (fun _ => d = .none) d := by
  rintro ds d ⟨r, g, n, T, h, h2, rfl, rfl⟩
  show Sat K (t_beginnings K) [.im (iD g), .im (iD n), .im (papD r T n), .no, .no, .no, .no] _ _
  unfold t_beginnings
  refine q_seq (s_asg (evd_call (a2 (dv 0) (dv 1)) ⟨r, g, n, h, by omega, rfl, rfl⟩) ?_)
  refine q_seq (s_asgF (evf_lcR1 (n := n) (fun k => oD (T (k + 1) (pw r g k))) (a1 (dv 1)) (by omega) fun k hk => ?_) ?_)
  · exact x_lay (x_pap (dv 2) (n_add (dv 5) (c_nat 1)) (by omega)) (x_pow rfl (dv 5) hk) (pw_lt h k)
  · refine q_seq (s_retF (evf_lcL1 (l := List.range n) (fun k => oD (T (k + 1) (pw r g k))) (fun k => oD (wgt (pw r g) T k)) (ov 4) (by rw [List.length_range]; omega) fun k hk => ?_))
    unfold wgt
    generalize T (k + 1) (pw r g k) = o
    cases o with
    | none => exact e_ifT (t_isN (dv 6)) evd_non
    | some x => exact e_ifF (t_isS (x := x) (dv 6)) (i_add (i := x) (dv 6) evd_int)
theorem e_price {K : PySem.W.Frag} {G : List Ent} {ta : TE} {o : Option Int} {j : Int} (h : EvD K ta G (oD o)) : EvD K (tCB rInt1 (tCons (tOp rEq ta (tC (.int j))) tNil)) G (.int (if o = some j then 1 else 0)) :=
  (evd_intB (o_eq (b := some j) h evd_int)).eq (by
    by_cases e : o = some j
    · rw [decide_eq_true e, if_pos e]
      rfl
    · rw [decide_eq_false e, if_neg e]
      rfl)
theorem sat_prices_of (K : PySem.W.Frag) : ∀ ds d, S_prices_of ds d → Sat K (t_prices_of K) (entry N_prices_of ds) (fun _ => d = .none) d := by
  rintro ds d ⟨n, rv, h2, rfl, rfl⟩
  show Sat K (t_prices_of K) [.im (recD rv n), .no] _ _
  unfold t_prices_of
  refine q_seq (s_retF (evf_lcL1 (l := List.range n) (fun k => oD (rv k)) (fun k => .tuple [.int (q0 rv k), .int (q1 rv k)]) (lv 0) (by rw [List.length_range]; omega) fun k hk => ?_))
  exact evd_tup (a2 (e_price (dv 1)) (e_price (dv 1))) (by show 2 ≤ 100000; decide)
theorem x_rec {K : PySem.W.Frag} {G : List Ent} {tb : TE} {rv : Nat → Option Int} {n k i : Nat} (h : G[i]? = some (.im (recD rv n))) (hb : EvD K tb G (iD k)) (hk : k < n) : EvD K (tOp (rIxL K) (tVar i) tb) G (oD (rv k)) := evd_ix (EvD.toO (evd_var h)) hb (at_rng hk)
theorem x_row {K : PySem.W.Frag} {G : List Ent} {tb : TE} {row : Nat → Nat} {n k i : Nat} (h : G[i]? = some (.im (rowD row n))) (hb : EvD K tb G (iD k)) (hk : k < n) : EvD K (tOp (rIxL K) (tVar i) tb) G (iD (row k)) := evd_ix (EvD.toO (evd_var h)) hb (at_rng hk)
theorem tot_count (rv : Nat → Option Int) (row : Nat → Nat) (hb : Bit rv) (hr : ∀ k, row k < 2) : ∀ n, (((List.filter (fun k => !(rv k).isNone && !decide (rv k = some (row k : Int))) (List.range n)).length : Nat) : Int) = tot (q0 rv) (q1 rv) row n
  | 0 => rfl
  | n + 1 => by
    have ih := tot_count rv row hb hr n
    rw [List.range_succ, List.filter_append, List.length_append, Int.natCast_add, ih]
    show _ = tot (q0 rv) (q1 rv) row n + cst (q0 rv) (q1 rv) n (row n)
    refine congrArg (tot (q0 rv) (q1 rv) row n + ·) ?_
    unfold cst q0 q1
    have h2 := hr n
    rw [List.filter_cons]
    rcases hb n with e | e | e
    · rw [e]
      by_cases z : row n = 0
      · rw [z]; rfl
      · rw [if_neg z]; rfl
    · rw [e]
      by_cases z : row n = 0
      · rw [z]; rfl
      · have z1 : row n = 1 := by omega
        rw [z1]; rfl
    · rw [e]
      by_cases z : row n = 0
      · rw [z]; rfl
      · have z1 : row n = 1 := by omega
        rw [z1]; rfl
theorem sat_price (K : PySem.W.Frag) : ∀ ds d, S_price ds d → Sat K (t_price K) (entry N_price ds) (fun _ => d = .none) d := by
  rintro ds d ⟨n, rv, row, h2, hb, hr, rfl, rfl⟩
  show Sat K (t_price K) [.im (recD rv n), .im (rowD row n), .no] _ _
  unfold t_price
  refine q_seq (s_ret ((evd_len (EvF.toO (evf_lcR (n := n) (fun k => !(rv k).isNone && !decide (rv k = some (row k : Int))) (fun k => iD k) (a1 (n_lenR (lv 1))) (by omega) (fun k hk => ?_) fun k hk _ => dv 2))).eq ?_))
  · refine (evt_and (t_isnt (x_rec rfl (dv 2) hk)) fun _ => evt_test (o_ne (b := some (row k : Int)) (x_rec rfl (dv 2) hk) (x_row rfl (dv 2) hk))).eq ?_
    rw [isN_oD]
  · rw [List.length_map]
    exact congrArg PyData.int (tot_count rv row hb hr n)
theorem rowst_lt {r : Nat} {P row : Nat → Nat} (hP : ∀ k, P k < 2 ^ r) (hr : ∀ k, row k < 2) : ∀ k, rowst P row k < 2 ^ r
  | 0 => Nat.two_pow_pos r
  | k + 1 => xor_lt (rowst_lt hP hr k) (by
    have h1 := hP k
    have h2 := hr k
    generalize row k = b at h2 ⊢
    rcases b with _ | _ | b
    · rw [Nat.mul_zero]; exact Nat.two_pow_pos r
    · rw [Nat.zero_add, Nat.mul_one]; exact h1
    · omega)
theorem mul_bit {r p b : Nat} (hp : p < 2 ^ r) (hb : b < 2) : p * b < 2 ^ r := by
  rcases b with _ | _ | b
  · rw [Nat.mul_zero]; exact Nat.two_pow_pos r
  · rw [Nat.zero_add, Nat.mul_one]; exact hp
  · omega
theorem n_flip {K : PySem.W.Frag} {G : List Ent} {ta : TE} {b : Nat} (ha : EvD K ta G (iD b)) (hb : b < 2) : EvD K (tOp xSub (tC (.int 1)) ta) G (iD (1 - b)) := (i_sub evd_int ha).eq (congrArg PyData.int (by omega))
theorem sat_others (K : PySem.W.Frag) : ∀ ds d, S_others ds d → Sat K (t_others K) (entry N_others ds) (fun _ => d = .none) d := by
  rintro ds d ⟨r, g, n, rv, T, row, h, h2, hr, rfl, rfl⟩
  show Sat K (t_others K) [.im (iD g), .im (recD rv n), .im (rowD row n), .im (papD r T n), .no, .no, .no, .no, .no, .no, .no, .no] _ _
  unfold t_others
  have h8 := pow8 h.r8
  refine q_seq (s_asg (evd_call (a1 (dv 1)) ⟨n, rv, h2, rfl, rfl⟩) ?_)
  refine q_seq (s_asg (evd_call (a2 (dv 0) (n_lenR (lv 1))) ⟨r, g, n, h, by omega, rfl, rfl⟩) ?_)
  refine q_seq (s_asgF (evf_lst eva_nil (by decide)) ?_)
  refine q_seq (s_asg (c_nat 0) ?_)
  refine q_seq (s_asg evd_int ?_)
  refine q_seq (s_for1 (n := n) (a1 (n_lenR (lv 2))) (by omega) (fun i => [.im (iD g), .im (recD rv n), .im (rowD row n), .im (papD r T n), .im (priD (q0 rv) (q1 rv) n), .im (powD (pw r g) n),
    .ow ((List.range i).map fun k => oD (oth (q0 rv) (q1 rv) (pw r g) T row k)), .im (iD (rowst (pw r g) row i)), .im (.int (tot (q0 rv) (q1 rv) row i)), .no, .no, .no]) ?w (fun k hk => ?b) ?d)
  case w =>
    walk_at "wk"
    all_goals rfl
  case b =>
    have hb : row k < 2 := hr k
    have hs := rowst_lt (pw_lt h) hr k
    have hp := pw_lt h k
    refine q_seq (s_asg (x_row rfl (dv 9) hk) ?_)
    refine q_seq (s_asg (x_lay (x_pap (dv 3) (n_add (dv 9) (c_nat 1)) (by omega)) (n_xor (dv 7) (n_mul (x_pow rfl (dv 9) hk) (n_flip (dv 10) hb) (by omega))) (xor_lt hs (mul_bit hp (by omega)))) ?_)
    refine q_seq (s_app (d := oD (oth (q0 rv) (q1 rv) (pw r g) T row k)) (ds := (List.range k).map fun k => oD (oth (q0 rv) (q1 rv) (pw r g) T row k)) rfl ?e (by rw [len_rng]; omega) ?_)
    case e =>
      unfold oth
      generalize T (k + 1) _ = o
      cases o with
      | none => exact e_ifT (t_isN (dv 11)) evd_non
      | some x => exact e_ifF (t_isS (x := x) (dv 11)) (i_add (j := x) (i_add (dv 8) (x_2 (x_pri (dv 4) (dv 9) hk) (n_flip (dv 10) hb) (by omega))) (dv 11))
    refine q_seq (s_aug (a := tot (q0 rv) (q1 rv) row k) rfl (x_2 (x_pri (dv 4) (dv 9) hk) (dv 10) hb) ?_)
    refine q_seq (s_asg (n_xor (dv 7) (n_mul (x_pow rfl (dv 9) hk) (dv 10) (by omega))) (s_next ?_))
    walk_at "wk"
    · rw [rng_succ]
    · rfl
    · rfl
  case d => exact q_seq (s_retO rfl)

/-! ## math -/
/-! ### the exclusive or -/
theorem xor_par (a b : Nat) : (a ^^^ b) % 2 = (a % 2 + b % 2) % 2 := by
  have h := Nat.xor_mod_two_pow (a := a) (b := b) (n := 1)
  rw [Nat.pow_one] at h
  rw [h]
  rcases Nat.mod_two_eq_zero_or_one a with ha | ha
  · rcases Nat.mod_two_eq_zero_or_one b with hb | hb
    · rw [ha, hb]
      rfl
    · rw [ha, hb]
      rfl
  · rcases Nat.mod_two_eq_zero_or_one b with hb | hb
    · rw [ha, hb]
      rfl
    · rw [ha, hb]
      rfl
theorem xor_eq0 {a b : Nat} (h : a ^^^ b = 0) : a = b := by
  have e : a ^^^ b ^^^ b = a := by
    rw [Nat.xor_assoc, Nat.xor_self, Nat.xor_zero]
  rw [h, Nat.zero_xor] at e
  exact e.symm
theorem red_xor (r g x y : Nat) : red r g (x ^^^ y) = red r g x ^^^ red r g y := by
  unfold red
  have e : (x ^^^ y) / 2 ^ r % 2 = (x / 2 ^ r % 2 + y / 2 ^ r % 2) % 2 := by
    rw [Nat.xor_div_two_pow]
    exact xor_par _ _
  rw [e]
  rcases Nat.mod_two_eq_zero_or_one (x / 2 ^ r) with hx | hx
  · rcases Nat.mod_two_eq_zero_or_one (y / 2 ^ r) with hy | hy
    · rw [hx, hy]
      rfl
    · rw [hx, hy]
      show (x ^^^ y) ^^^ g = x ^^^ (y ^^^ g)
      exact Nat.xor_assoc ..
  · rcases Nat.mod_two_eq_zero_or_one (y / 2 ^ r) with hy | hy
    · rw [hx, hy]
      show (x ^^^ y) ^^^ g = (x ^^^ g) ^^^ y
      rw [Nat.xor_assoc, Nat.xor_comm y g, ← Nat.xor_assoc]
    · rw [hx, hy]
      show x ^^^ y = (x ^^^ g) ^^^ (y ^^^ g)
      rw [Nat.xor_assoc, Nat.xor_comm y g, ← Nat.xor_assoc g g y, Nat.xor_self, Nat.zero_xor]
theorem two_xor (a b : Nat) : 2 * (a ^^^ b) = (2 * a) ^^^ (2 * b) := by
  have h := Nat.shiftLeft_xor_distrib (a := a) (b := b) (i := 1)
  simp only [Nat.shiftLeft_eq, Nat.pow_one] at h
  rw [Nat.mul_comm, h, Nat.mul_comm a, Nat.mul_comm b]
def xsum (P : Nat → Nat) : Nat → List Nat → Nat
  | _, [] => 0
  | k, b :: bs => (P k * b) ^^^ xsum P (k + 1) bs
theorem xsum_app (P : Nat → Nat) : ∀ (k : Nat) (as bs : List Nat), xsum P k (as ++ bs) = xsum P k as ^^^ xsum P (k + as.length) bs
  | k, [], bs => by
    show xsum P k bs = 0 ^^^ xsum P (k + 0) bs
    rw [Nat.zero_xor, Nat.add_zero]
  | k, a :: as, bs => by
    show (P k * a) ^^^ xsum P (k + 1) (as ++ bs) = ((P k * a) ^^^ xsum P (k + 1) as) ^^^ xsum P (k + (as.length + 1)) bs
    rw [xsum_app P (k + 1) as bs, Nat.xor_assoc, Nat.add_assoc k 1, Nat.add_comm 1]
theorem xsum_rep (P : Nat → Nat) : ∀ (k m : Nat), xsum P k (List.replicate m 0) = 0
  | _, 0 => rfl
  | k, m + 1 => by
    show (P k * 0) ^^^ xsum P (k + 1) (List.replicate m 0) = 0
    rw [xsum_rep P (k + 1) m, Nat.mul_zero]
    rfl
theorem wbits_succ (bit : Nat → Nat → Nat) (P : Nat → Nat) (k s i : Nat) : wbits bit P k s (i + 1) = wbits bit P k s i ++ [bit (k + i) (wst bit P k s i)] := by
  unfold wbits
  rw [List.range_succ, List.map_append]
  rfl
theorem wbits_len (bit : Nat → Nat → Nat) (P : Nat → Nat) (k s i : Nat) : (wbits bit P k s i).length = i := by
  unfold wbits
  rw [List.length_map, List.length_range]
theorem xsum_walk (bit : Nat → Nat → Nat) (P : Nat → Nat) (k s : Nat) : ∀ i, xsum P k (wbits bit P k s i) = s ^^^ wst bit P k s i
  | 0 => (Nat.xor_self s).symm
  | i + 1 => by
    rw [wbits_succ, xsum_app, xsum_walk bit P k s i, wbits_len]
    show (s ^^^ wst bit P k s i) ^^^ ((P (k + i) * bit (k + i) (wst bit P k s i)) ^^^ 0) = s ^^^ (wst bit P k s i ^^^ (P (k + i) * bit (k + i) (wst bit P k s i)))
    rw [Nat.xor_zero, Nat.xor_assoc]
section
variable {r g : Nat}
theorem red_bit (h : Sl r g) {p b : Nat} (hb : b < 2) : red r g (2 * (p * b)) = red r g (2 * p) * b := by
  rcases b with _ | _ | b
  · rw [Nat.mul_zero, Nat.mul_zero, Nat.mul_zero]
    exact red_0 (Nat.two_pow_pos r)
  · rw [Nat.zero_add, Nat.mul_one, Nat.mul_one]
  · omega
theorem xsum_shift (h : Sl r g) : ∀ (k : Nat) (bs : List Nat), (∀ b ∈ bs, b < 2) → red r g (2 * xsum (pw r g) k bs) = xsum (pw r g) (k + 1) bs
  | _, [], _ => red_0 (Nat.two_pow_pos r)
  | k, b :: bs, hb => by
    show red r g (2 * ((pw r g k * b) ^^^ xsum (pw r g) (k + 1) bs)) = (pw r g (k + 1) * b) ^^^ xsum (pw r g) (k + 1 + 1) bs
    rw [two_xor, red_xor, red_bit h (hb b List.mem_cons_self), xsum_shift h (k + 1) bs fun x hx => hb x (List.mem_cons_of_mem _ hx)]
    rfl
theorem rst_xsum (h : Sl r g) : ∀ bs : List Nat, (∀ b ∈ bs, b < 2) → rst r g bs = xsum (pw r g) 0 bs
  | [], _ => rfl
  | b :: bs, hb => by
    have h2 := hb b List.mem_cons_self
    have h3 : 2 ^ 1 ≤ 2 ^ r := Nat.pow_le_pow_right (by decide) h.r1
    show red r g ((2 * rst r g bs) ^^^ b) = (1 * b) ^^^ xsum (pw r g) (0 + 1) bs
    rw [rst_xsum h bs fun x hx => hb x (List.mem_cons_of_mem _ hx), red_xor, xsum_shift h 0 bs fun x hx => hb x (List.mem_cons_of_mem _ hx), red_0 (x := b) (by omega), Nat.one_mul, Nat.xor_comm]
/-! the seal's own row -/
def gl (g n : Nat) : List Nat := (List.range n).map fun k => g / 2 ^ k % 2
theorem gl_bits (g n : Nat) : ∀ b ∈ gl g n, b < 2 := fun b hb => by
  obtain ⟨k, _, rfl⟩ := List.mem_map.mp hb
  exact Nat.mod_lt _ (by decide)
theorem gl_len (g n : Nat) : (gl g n).length = n := by
  unfold gl
  rw [List.length_map, List.length_range]
theorem gl_at (g n k : Nat) (h : k < (gl g n).length) : (gl g n)[k] = g / 2 ^ k % 2 := by
  simp only [gl, List.getElem_map, List.getElem_range]
theorem two_add (a b : Nat) (hb : b < 2) : (2 * a) ^^^ b = 2 * a + b := by
  have h := Nat.two_pow_add_eq_or_of_lt (i := 1) (b := b) (by omega) a
  have h2 : (2 * a) &&& b = 0 := by
    rcases b with _ | _ | b
    · exact Nat.and_zero _
    · rw [Nat.zero_add, Nat.and_one_is_mod]
      omega
    · omega
  rcases b with _ | _ | b
  · rw [Nat.xor_zero]
    rfl
  · refine Nat.eq_of_testBit_eq fun i => ?_
    rw [Nat.testBit_xor]
    cases i with
    | zero =>
      rw [Nat.testBit_zero, Nat.testBit_zero, Nat.testBit_zero]
      have e1 : 2 * a % 2 = 0 := by omega
      have e2 : (2 * a + (0 + 1)) % 2 = 1 := by omega
      rw [e1, e2]
      rfl
    | succ i =>
      rw [Nat.testBit_succ, Nat.testBit_succ, Nat.testBit_succ]
      have e1 : 2 * a / 2 = a := by omega
      have e2 : (2 * a + (0 + 1)) / 2 = a := by omega
      have e3 : (0 + 1) / 2 = 0 := rfl
      rw [e1, e2, e3, Nat.zero_testBit, Bool.xor_false]
  · omega
theorem gl_drop (h : Sl r g) {n : Nat} (hn : r < n) : ∀ j, j < n → rst r g ((gl g n).drop (n - j)) = g / 2 ^ (n - j) := by
  intro j
  induction j with
  | zero =>
    intro _
    rw [Nat.sub_zero, List.drop_of_length_le (by rw [gl_len]; exact Nat.le_refl _)]
    have h1 : 2 ^ (r + 1) ≤ 2 ^ n := Nat.pow_le_pow_right (by decide) hn
    have := h.hi
    exact (Nat.div_eq_of_lt (by omega)).symm
  | succ j ih =>
    intro hj
    have ih := ih (by omega)
    have e1 : n - j = n - (j + 1) + 1 := by omega
    have hk : n - (j + 1) < (gl g n).length := by
      rw [gl_len]
      omega
    rw [List.drop_eq_getElem_cons hk, ← e1]
    have eb : (gl g n)[n - (j + 1)] = g / 2 ^ (n - (j + 1)) % 2 := gl_at ..
    rw [eb]
    show red r g ((2 * rst r g ((gl g n).drop (n - j))) ^^^ (g / 2 ^ (n - (j + 1)) % 2)) = _
    rw [ih, two_add _ _ (Nat.mod_lt _ (by decide)), e1, Nat.pow_succ, ← Nat.div_div_eq_div_mul]
    have e2 : 2 * (g / 2 ^ (n - (j + 1)) / 2) + g / 2 ^ (n - (j + 1)) % 2 = g / 2 ^ (n - (j + 1)) := by omega
    rw [e2]
    refine red_0 ?_
    apply Nat.div_lt_of_lt_mul
    have h1 : 2 ^ 1 ≤ 2 ^ (n - (j + 1)) := Nat.pow_le_pow_right (by decide) (by omega)
    have h2 := h.hi
    rw [Nat.pow_succ] at h2
    have h3 : 2 ^ 1 * 2 ^ r ≤ 2 ^ (n - (j + 1)) * 2 ^ r := Nat.mul_le_mul_right _ h1
    omega
theorem gl_zero (h : Sl r g) {n : Nat} (hn : r < n) : xsum (pw r g) 0 (gl g n) = 0 := by
  rw [← rst_xsum h _ (gl_bits g n)]
  have h1 := gl_drop h hn (n - 1) (by omega)
  have e1 : n - (n - 1) = 1 := by omega
  rw [e1] at h1
  have hk : 0 < (gl g n).length := by
    rw [gl_len]
    omega
  have e0 : gl g n = (gl g n)[0] :: (gl g n).drop 1 := by
    have := List.drop_eq_getElem_cons hk
    rw [List.drop_zero] at this
    exact this
  have eb : (gl g n)[0] = g % 2 := by
    rw [gl_at, Nat.pow_zero, Nat.div_one]
  rw [e0]
  show red r g ((2 * rst r g ((gl g n).drop 1)) ^^^ (gl g n)[0]) = 0
  rw [h1, eb, two_add _ _ (Nat.mod_lt _ (by decide)), Nat.pow_one]
  have e2 : 2 * (g / 2) + g % 2 = g := by omega
  rw [e2]
  unfold red
  have h3 : g / 2 ^ r = 1 := by
    have := h.lo
    have := h.hi
    rw [Nat.pow_succ] at this
    refine Nat.div_eq_of_lt_le ?_ ?_
    · omega
    · omega
  rw [h3, if_pos rfl, Nat.xor_self]
end
/-! ### tables -/
structure Tb (c0 c1 : Nat → Int) (P : Nat → Nat) (n : Nat) (T : Nat → Nat → Option Int) : Prop where
  last : ∀ s, T n s = fin0 s
  step : ∀ k s, k < n → T k s = cmb (c0 k) (c1 k) (T (k + 1)) (P k) s
theorem tb_tab (c0 c1 : Nat → Int) (P : Nat → Nat) (n : Nat) : Tb c0 c1 P n (tab c0 c1 P n) := ⟨fun s => tab_last c0 c1 P n s, fun k s h => tab_step c0 c1 P h s⟩
theorem tbit_lt (c0 : Nat → Int) (T : Nat → Nat → Option Int) (k s : Nat) : tbit c0 T k s < 2 := by
  unfold tbit
  split
  · decide
  · split <;> decide
theorem tbit_none {c0 : Nat → Int} {T : Nat → Nat → Option Int} {k s : Nat} (h : T (k + 1) s = none) : tbit c0 T k s = 1 := by
  unfold tbit
  rw [h]
theorem tbit_some {c0 : Nat → Int} {T : Nat → Nat → Option Int} {k s : Nat} {x : Int} (h : T (k + 1) s = some x) : tbit c0 T k s = if some (x + c0 k) = T k s then 0 else 1 := by
  unfold tbit
  rw [h]
def wcost (c0 c1 : Nat → Int) (bit : Nat → Nat → Nat) (P : Nat → Nat) (k s : Nat) : Nat → Int
  | 0 => 0
  | i + 1 => wcost c0 c1 bit P k s i + cst c0 c1 (k + i) (bit (k + i) (wst bit P k s i))
section
variable {c0 c1 : Nat → Int} {P : Nat → Nat} {n : Nat} {T : Nat → Nat → Option Int}
theorem tbit_spec (h : Tb c0 c1 P n T) {k s : Nat} {v : Int} (hk : k < n) (hv : T k s = some v) : T (k + 1) (s ^^^ (P k * tbit c0 T k s)) = some (v - cst c0 c1 k (tbit c0 T k s)) := by
  have e := h.step k s hk
  rw [hv] at e
  unfold cmb at e
  unfold tbit
  cases hx : T (k + 1) s with
  | none =>
    rw [hx] at e
    show T (k + 1) (s ^^^ (P k * 1)) = some (v - c1 k)
    rw [Nat.mul_one]
    cases hy : T (k + 1) (s ^^^ P k) with
    | none =>
      rw [hy] at e
      cases e
    | some y =>
      rw [hy] at e
      have e2 : v = y + c1 k := Option.some.inj e
      rw [e2]
      exact congrArg some (by omega)
  | some x =>
    rw [hx] at e
    show T (k + 1) (s ^^^ (P k * (if some (x + c0 k) = T k s then 0 else 1))) = some (v - cst c0 c1 k (if some (x + c0 k) = T k s then 0 else 1))
    by_cases z : some (x + c0 k) = T k s
    · rw [if_pos z, Nat.mul_zero, Nat.xor_zero, hx]
      rw [hv] at z
      have z2 : x + c0 k = v := Option.some.inj z
      show some x = some (v - c0 k)
      exact congrArg some (by omega)
    · rw [if_neg z, Nat.mul_one]
      rw [hv] at z
      show T (k + 1) (s ^^^ P k) = some (v - c1 k)
      cases hy : T (k + 1) (s ^^^ P k) with
      | none =>
        rw [hy] at e
        exact absurd e.symm z
      | some y =>
        rw [hy] at e
        have e2 : v = if y + c1 k < x + c0 k then y + c1 k else x + c0 k := Option.some.inj e
        by_cases q : y + c1 k < x + c0 k
        · rw [if_pos q] at e2
          exact congrArg some (by omega)
        · rw [if_neg q] at e2
          exact absurd (congrArg some e2.symm) z
theorem path (h : Tb c0 c1 P n T) {k s : Nat} {v : Int} (hv : T k s = some v) : ∀ i, k + i ≤ n → T (k + i) (wst (tbit c0 T) P k s i) = some (v - wcost c0 c1 (tbit c0 T) P k s i)
  | 0, _ => by
    rw [Nat.add_zero]
    show T k s = some (v - 0)
    rw [Int.sub_zero]
    exact hv
  | i + 1, hi => by
    have ih := path h hv i (by omega)
    have st := tbit_spec h (by omega) ih
    show T (k + i + 1) _ = some (v - (wcost c0 c1 (tbit c0 T) P k s i + cst c0 c1 (k + i) (tbit c0 T (k + i) (wst (tbit c0 T) P k s i))))
    rw [← Int.sub_sub]
    exact st
theorem path_end (h : Tb c0 c1 P n T) {k s : Nat} {v : Int} (hv : T k s = some v) (hk : k ≤ n) : wst (tbit c0 T) P k s (n - k) = 0 ∧ v = wcost c0 c1 (tbit c0 T) P k s (n - k) := by
  have e := path h hv (n - k) (by omega)
  have ek : k + (n - k) = n := by omega
  rw [ek, h.last] at e
  unfold fin0 at e
  by_cases z : wst (tbit c0 T) P k s (n - k) = 0
  · rw [if_pos z] at e
    have e2 := Option.some.inj e
    exact ⟨z, by omega⟩
  · rw [if_neg z] at e
    cases e
/-- a state from which some bits lead to 0 has a number -/
theorem reach (h : Tb c0 c1 P n T) : ∀ (bs : List Nat) (k : Nat), k + bs.length = n → (∀ b ∈ bs, b < 2) → ∃ v, T k (xsum P k bs) = some v
  | [], k, hk, _ => by
    have e : k = n := hk
    subst e
    exact ⟨0, by rw [h.last]; rfl⟩
  | b :: bs, k, hk, hb => by
    have hl : (b :: bs).length = bs.length + 1 := rfl
    obtain ⟨v, hv⟩ := reach h bs (k + 1) (by omega) fun x hx => hb x (List.mem_cons_of_mem _ hx)
    have hb2 := hb b List.mem_cons_self
    show ∃ v, T k ((P k * b) ^^^ xsum P (k + 1) bs) = some v
    rw [h.step k _ (by omega)]
    unfold cmb
    rcases b with _ | _ | b
    · rw [Nat.mul_zero, Nat.zero_xor, hv]
      cases T (k + 1) (xsum P (k + 1) bs ^^^ P k) with
      | none => exact ⟨_, rfl⟩
      | some y => exact ⟨_, rfl⟩
    · rw [Nat.zero_add, Nat.mul_one]
      have e : P k ^^^ xsum P (k + 1) bs ^^^ P k = xsum P (k + 1) bs := by
        rw [Nat.xor_comm (P k) (xsum P (k + 1) bs), Nat.xor_assoc, Nat.xor_self, Nat.xor_zero]
      rw [e, hv]
      cases T (k + 1) (P k ^^^ xsum P (k + 1) bs) with
      | none => exact ⟨_, rfl⟩
      | some y => exact ⟨_, rfl⟩
    · omega
theorem some0 (h : Tb c0 c1 P n T) : ∃ v, T 0 0 = some v := by
  obtain ⟨v, hv⟩ := reach h (List.replicate n 0) 0 (by rw [List.length_replicate]; omega) fun b hb => by rw [List.eq_of_mem_replicate hb]; decide
  rw [xsum_rep] at hv
  exact ⟨v, hv⟩
end
/-! ### least ones -/
theorem lst_ex {f : Nat → Option Int} : ∀ n, (∃ k w, k < n ∧ f k = some w) → ∃ W st, Lst n f W st
  | 0, ⟨k, w, hk, _⟩ => by omega
  | n + 1, ⟨k, w, hk, hw⟩ => by
    by_cases he : ∃ k w, k < n ∧ f k = some w
    · obtain ⟨W, st, L⟩ := lst_ex n he
      cases hn : f n with
      | none =>
        refine ⟨W, st, ⟨by have := L.lt; omega, L.at_, fun j x hj hx => ?_, fun j hj hx => ?_⟩⟩
        · by_cases e : j = n
          · subst e
            rw [hn] at hx
            cases hx
          · exact L.low j x (by omega) hx
        · by_cases e : j = n
          · subst e
            rw [hn] at hx
            cases hx
          · exact L.last j (by omega) hx
      | some x =>
        by_cases q : x ≤ W
        · refine ⟨x, n, ⟨by omega, hn, fun j y hj hy => ?_, fun j hj hy => by omega⟩⟩
          by_cases e : j = n
          · subst e
            rw [hn] at hy
            have := Option.some.inj hy
            omega
          · have := L.low j y (by omega) hy
            omega
        · refine ⟨W, st, ⟨by have := L.lt; omega, L.at_, fun j y hj hy => ?_, fun j hj hy => ?_⟩⟩
          · by_cases e : j = n
            · subst e
              rw [hn] at hy
              have := Option.some.inj hy
              omega
            · exact L.low j y (by omega) hy
          · by_cases e : j = n
            · subst e
              rw [hn] at hy
              have := Option.some.inj hy
              omega
            · exact L.last j (by omega) hy
    · have ek : k = n := by
        by_cases e : k = n
        · exact e
        · exact absurd ⟨k, w, by omega, hw⟩ he
      subst ek
      refine ⟨w, k, ⟨by omega, hw, fun j y hj hy => ?_, fun j hj hy => by omega⟩⟩
      by_cases e : j = k
      · subst e
        rw [hw] at hy
        have := Option.some.inj hy
        omega
      · exact absurd ⟨j, y, by omega, hy⟩ he
theorem low_ex {f : Nat → Option Int} {n : Nat} (h : ∃ k w, k < n ∧ f k = some w) : ∃ W, Low n f W := by
  obtain ⟨W, st, L⟩ := lst_ex n h
  exact ⟨W, ⟨st, L.lt, L.at_⟩, L.low⟩
/-! ### what the law leans on -/
section
variable {r g n : Nat}
theorem wgt_ex (h : Sl r g) (hn : r < n) : ∃ k w, k < n ∧ wgt (pw r g) (Wtab r g n) k = some w := by
  have ht : Tb c00 c11 (pw r g) n (Wtab r g n) := tb_tab c00 c11 (pw r g) n
  have hk : 0 < (gl g n).length := by
    rw [gl_len]
    omega
  have e0 : gl g n = (gl g n)[0] :: (gl g n).drop 1 := by
    have := List.drop_eq_getElem_cons hk
    rw [List.drop_zero] at this
    exact this
  have eb : (gl g n)[0] = 1 := by
    rw [gl_at, Nat.pow_zero, Nat.div_one]
    exact h.odd
  have hz := gl_zero h hn
  rw [e0, eb] at hz
  have hz : (pw r g 0 * 1) ^^^ xsum (pw r g) 1 ((gl g n).drop 1) = 0 := hz
  have e1 : xsum (pw r g) 1 ((gl g n).drop 1) = pw r g 0 := by
    rw [Nat.mul_one] at hz
    exact (xor_eq0 hz).symm
  obtain ⟨v, hv⟩ := reach ht ((gl g n).drop 1) 1 (by rw [List.length_drop, gl_len]; omega) fun b hb => gl_bits g n b (List.mem_of_mem_drop hb)
  rw [e1] at hv
  refine ⟨0, v + 1, by omega, ?_⟩
  unfold wgt
  show oadd (Wtab r g n 1 (pw r g 0)) 1 = _
  rw [hv]
  rfl
theorem lpat_bits {P : Nat → Nat} {T : Nat → Nat → Option Int} {st : Nat} : ∀ b ∈ lpat P T n st, b < 2 := fun b hb => by
  unfold lpat at hb
  rcases List.mem_append.mp hb with hb | hb
  · rcases List.mem_append.mp hb with hb | hb
    · rw [List.eq_of_mem_replicate hb]
      decide
    · rw [List.mem_singleton.mp hb]
      decide
  · unfold wbits at hb
    obtain ⟨j, _, rfl⟩ := List.mem_map.mp hb
    exact tbit_lt ..
theorem lpat_len {P : Nat → Nat} {T : Nat → Nat → Option Int} {st : Nat} (hs : st < n) : (lpat P T n st).length = n := by
  unfold lpat
  rw [List.length_append, List.length_append, List.length_replicate, wbits_len]
  show st + 1 + _ = n
  omega
theorem wsum {T : Nat → Nat → Option Int} {P : Nat → Nat} {k s : Nat} : ∀ i, ((wbits (tbit c00 T) P k s i).map fun b : Nat => (b : Int)).sum = wcost c00 c11 (tbit c00 T) P k s i
  | 0 => rfl
  | i + 1 => by
    rw [wbits_succ, List.map_append, List.sum_append, wsum i]
    show _ + ([((tbit c00 T (k + i) (wst (tbit c00 T) P k s i) : Nat) : Int)]).sum = wcost c00 c11 (tbit c00 T) P k s i + cst c00 c11 (k + i) (tbit c00 T (k + i) (wst (tbit c00 T) P k s i))
    have h2 := tbit_lt c00 T (k + i) (wst (tbit c00 T) P k s i)
    generalize tbit c00 T (k + i) (wst (tbit c00 T) P k s i) = b at h2 ⊢
    rcases b with _ | _ | b
    · rfl
    · rfl
    · omega
theorem wgt_at {P : Nat → Nat} {T : Nat → Nat → Option Int} {k : Nat} {W : Int} (h : wgt P T k = some W) : T (k + 1) (P k) = some (W - 1) := by
  unfold wgt at h
  cases e : T (k + 1) (P k) with
  | none =>
    rw [e] at h
    cases h
  | some x =>
    rw [e] at h
    have h : x + 1 = W := Option.some.inj h
    exact congrArg some (by omega)
theorem sum_rep0 : ∀ m : Nat, (List.replicate m (0 : Int)).sum = 0
  | 0 => rfl
  | m + 1 => by
    rw [List.replicate_succ, List.sum_cons, sum_rep0 m]
    rfl
theorem lpat_facts {P : Nat → Nat} {T : Nat → Nat → Option Int} (ht : Tb c00 c11 P n T) {W : Int} {st : Nat} (L : Lst n (wgt P T) W st) :
    xsum P 0 (lpat P T n st) = 0 ∧ ((lpat P T n st).map fun b : Nat => (b : Int)).sum = W := by
  have hv := wgt_at L.at_
  obtain ⟨e1, e2⟩ := path_end ht hv (by have := L.lt; omega)
  constructor
  · unfold lpat
    rw [xsum_app, xsum_app, xsum_rep, List.length_append, List.length_replicate]
    show (0 ^^^ ((P (0 + st) * 1) ^^^ 0)) ^^^ xsum P (0 + (st + 1)) (wbits (tbit c00 T) P (st + 1) (P st) (n - (st + 1))) = 0
    rw [Nat.zero_add, Nat.zero_add, xsum_walk, e1, Nat.xor_zero, Nat.xor_zero, Nat.zero_xor, Nat.mul_one, Nat.xor_self]
  · unfold lpat
    rw [List.map_append, List.map_append, List.sum_append, List.sum_append, wsum, ← e2]
    have e3 : ((List.replicate st 0).map fun b : Nat => (b : Int)).sum = 0 := by
      rw [List.map_replicate]
      exact sum_rep0 st
    rw [e3]
    show 0 + (1 + 0) + (W - 1) = W
    omega
/-! the told row -/
variable {rv : Nat → Option Int}
theorem trow_lt (k : Nat) : trow r g n rv k < 2 := tbit_lt ..
theorem rowst_trow : ∀ k, rowst (pw r g) (trow r g n rv) k = wst (tbit (q0 rv) (Qtab r g n rv)) (pw r g) 0 0 k
  | 0 => rfl
  | k + 1 => by
    show rowst (pw r g) (trow r g n rv) k ^^^ (pw r g k * trow r g n rv k) = wst (tbit (q0 rv) (Qtab r g n rv)) (pw r g) 0 0 k ^^^ (pw r g (0 + k) * tbit (q0 rv) (Qtab r g n rv) (0 + k) (wst (tbit (q0 rv) (Qtab r g n rv)) (pw r g) 0 0 k))
    rw [rowst_trow k, Nat.zero_add]
    rfl
theorem tot_trow : ∀ k, tot (q0 rv) (q1 rv) (trow r g n rv) k = wcost (q0 rv) (q1 rv) (tbit (q0 rv) (Qtab r g n rv)) (pw r g) 0 0 k
  | 0 => rfl
  | k + 1 => by
    show tot (q0 rv) (q1 rv) (trow r g n rv) k + cst (q0 rv) (q1 rv) k (trow r g n rv k) = wcost (q0 rv) (q1 rv) (tbit (q0 rv) (Qtab r g n rv)) (pw r g) 0 0 k + cst (q0 rv) (q1 rv) (0 + k) (tbit (q0 rv) (Qtab r g n rv) (0 + k) (wst (tbit (q0 rv) (Qtab r g n rv)) (pw r g) 0 0 k))
    rw [tot_trow k, Nat.zero_add]
    rfl
theorem wbits_trow : wbits (tbit (q0 rv) (Qtab r g n rv)) (pw r g) 0 0 n = (List.range n).map (trow r g n rv) := by
  unfold wbits
  refine List.map_congr_left fun j _ => ?_
  rw [Nat.zero_add]
  rfl
/-- the row's rest is 0 and its price is the least -/
theorem trow_facts {v : Int} (hv : Qtab r g n rv 0 0 = some v) : xsum (pw r g) 0 ((List.range n).map (trow r g n rv)) = 0 ∧ tot (q0 rv) (q1 rv) (trow r g n rv) n = v := by
  have ht : Tb (q0 rv) (q1 rv) (pw r g) n (Qtab r g n rv) := tb_tab ..
  obtain ⟨e1, e2⟩ := path_end ht hv (Nat.zero_le n)
  rw [Nat.sub_zero] at e1 e2
  constructor
  · rw [← wbits_trow, xsum_walk, e1]
    rfl
  · rw [tot_trow, ← e2]
/-- at each place: the state's number is what is left of the price -/
theorem trow_left {v : Int} (hv : Qtab r g n rv 0 0 = some v) {k : Nat} (hk : k ≤ n) : Qtab r g n rv k (rowst (pw r g) (trow r g n rv) k) = some (v - tot (q0 rv) (q1 rv) (trow r g n rv) k) := by
  have ht : Tb (q0 rv) (q1 rv) (pw r g) n (Qtab r g n rv) := tb_tab ..
  have e := path ht hv k (by omega)
  rw [Nat.zero_add] at e
  rw [rowst_trow, tot_trow]
  exact e
theorem trow_bit (k : Nat) : trow r g n rv k = tbit (q0 rv) (Qtab r g n rv) k (rowst (pw r g) (trow r g n rv) k) := by
  rw [rowst_trow]
  rfl
theorem oth_low {v x : Int} (hv : Qtab r g n rv 0 0 = some v) {k : Nat} (hk : k < n) (hx : oth (q0 rv) (q1 rv) (pw r g) (Qtab r g n rv) (trow r g n rv) k = some x) : v + (trow r g n rv k : Int) ≤ x := by
  have ht : Tb (q0 rv) (q1 rv) (pw r g) n (Qtab r g n rv) := tb_tab ..
  have e := trow_left hv (k := k) (by omega)
  have es := ht.step k (rowst (pw r g) (trow r g n rv) k) hk
  rw [e] at es
  have hb := trow_bit (r := r) (g := g) (n := n) (rv := rv) k
  have h2 := trow_lt (r := r) (g := g) (n := n) (rv := rv) k
  unfold oth at hx
  generalize tot (q0 rv) (q1 rv) (trow r g n rv) k = t at *
  generalize rowst (pw r g) (trow r g n rv) k = s at *
  generalize trow r g n rv k = b at *
  unfold cmb at es
  rcases b with _ | _ | b
  · -- the row has 0
    rw [Nat.sub_zero, Nat.mul_one] at hx
    cases hy : Qtab r g n rv (k + 1) (s ^^^ pw r g k) with
    | none =>
      rw [hy] at hx
      cases hx
    | some y =>
      rw [hy] at hx es
      have hx : t + q1 rv k + y = x := Option.some.inj hx
      cases hz : Qtab r g n rv (k + 1) s with
      | none =>
        rw [hz] at es
        have es : v - t = y + q1 rv k := Option.some.inj es
        show v + 0 ≤ x
        omega
      | some z =>
        rw [hz] at es
        have es : v - t = if y + q1 rv k < z + q0 rv k then y + q1 rv k else z + q0 rv k := Option.some.inj es
        show v + 0 ≤ x
        split at es <;> omega
  · -- the row has 1
    rw [Nat.zero_add, Nat.sub_self, Nat.mul_zero, Nat.xor_zero] at hx
    cases hz : Qtab r g n rv (k + 1) s with
    | none =>
      rw [hz] at hx
      cases hx
    | some z =>
      rw [hz] at hx es
      have hx : t + q0 rv k + z = x := Option.some.inj hx
      unfold tbit at hb
      rw [hz] at hb
      have hb : 0 + 1 = if some (z + q0 rv k) = Qtab r g n rv k s then 0 else 1 := hb
      have hne : ¬ z + q0 rv k = v - t := by
        intro q
        rw [e, q, if_pos rfl] at hb
        omega
      show v + 1 ≤ x
      cases hy : Qtab r g n rv (k + 1) (s ^^^ pw r g k) with
      | none =>
        rw [hy] at es
        have es : v - t = z + q0 rv k := Option.some.inj es
        omega
      | some y =>
        rw [hy] at es
        have es : v - t = if y + q1 rv k < z + q0 rv k then y + q1 rv k else z + q0 rv k := Option.some.inj es
        split at es <;> omega
  · omega
theorem xsum_zip (P : Nat → Nat) : ∀ (k : Nat) (as bs : List Nat), as.length = bs.length → (∀ b ∈ as, b < 2) → (∀ b ∈ bs, b < 2) → xsum P k (List.zipWith (· ^^^ ·) as bs) = xsum P k as ^^^ xsum P k bs
  | k, [], [], _, _, _ => by
    have e : xsum P k [] = 0 := rfl
    rw [List.zipWith_nil_left, e]
    rfl
  | _, [], _ :: _, h, _, _ => by cases h
  | _, _ :: _, [], h, _, _ => by cases h
  | k, a :: as, b :: bs, h, ha, hb => by
    have h1 := ha a List.mem_cons_self
    have h2 := hb b List.mem_cons_self
    show (P k * (a ^^^ b)) ^^^ xsum P (k + 1) (List.zipWith (· ^^^ ·) as bs) = ((P k * a) ^^^ xsum P (k + 1) as) ^^^ ((P k * b) ^^^ xsum P (k + 1) bs)
    rw [xsum_zip P (k + 1) as bs (Nat.succ.inj h) (fun x hx => ha x (List.mem_cons_of_mem _ hx)) (fun x hx => hb x (List.mem_cons_of_mem _ hx))]
    have e : P k * (a ^^^ b) = (P k * a) ^^^ (P k * b) := by
      rcases a with _ | _ | a
      · rw [Nat.zero_xor, Nat.mul_zero, Nat.zero_xor]
      · rcases b with _ | _ | b
        · rw [Nat.xor_zero, Nat.mul_zero, Nat.xor_zero]
        · rw [Nat.xor_self, Nat.mul_zero, Nat.xor_self]
        · omega
      · omega
    rw [e]
    generalize P k * a = A
    generalize P k * b = B
    generalize xsum P (k + 1) as = C
    generalize xsum P (k + 1) bs = D
    rw [Nat.xor_assoc, Nat.xor_assoc, ← Nat.xor_assoc B C D, Nat.xor_comm B C, Nat.xor_assoc C B D]
theorem oth_ex (h : Sl r g) (hn : r < n) {v : Int} (hv : Qtab r g n rv 0 0 = some v) : ∃ k w, k < n ∧ oth (q0 rv) (q1 rv) (pw r g) (Qtab r g n rv) (trow r g n rv) k = some w := by
  have ht : Tb (q0 rv) (q1 rv) (pw r g) n (Qtab r g n rv) := tb_tab ..
  obtain ⟨z1, _⟩ := trow_facts hv
  have z2 := gl_zero h hn
  have hb1 : ∀ b ∈ (List.range n).map (trow r g n rv), b < 2 := fun b hb => by
    obtain ⟨j, _, rfl⟩ := List.mem_map.mp hb
    exact trow_lt j
  have z3 := xsum_zip (pw r g) 0 ((List.range n).map (trow r g n rv)) (gl g n) (by rw [gl_len, List.length_map, List.length_range]) hb1 (gl_bits g n)
  rw [z1, z2] at z3
  obtain ⟨m, rfl⟩ : ∃ m, n = m + 1 := ⟨n - 1, by omega⟩
  have ec : List.zipWith (· ^^^ ·) ((List.range (m + 1)).map (trow r g (m + 1) rv)) (gl g (m + 1)) = (trow r g (m + 1) rv 0 ^^^ (g / 2 ^ 0 % 2)) :: List.zipWith (· ^^^ ·) (((List.range m).map Nat.succ).map (trow r g (m + 1) rv)) (((List.range m).map Nat.succ).map fun k => g / 2 ^ k % 2) := by
    unfold gl
    rw [List.range_succ_eq_map]
    rfl
  rw [ec] at z3
  have hodd := h.odd
  rw [Nat.pow_zero, Nat.div_one, hodd] at z3
  have h2 := trow_lt (r := r) (g := g) (n := m + 1) (rv := rv) 0
  have e1 : trow r g (m + 1) rv 0 ^^^ 1 = 1 - trow r g (m + 1) rv 0 := by
    generalize trow r g (m + 1) rv 0 = b at h2 ⊢
    rcases b with _ | _ | b
    · rfl
    · rfl
    · omega
  rw [e1] at z3
  have z3 : (pw r g 0 * (1 - trow r g (m + 1) rv 0)) ^^^ xsum (pw r g) 1 (List.zipWith (· ^^^ ·) (((List.range m).map Nat.succ).map (trow r g (m + 1) rv)) (((List.range m).map Nat.succ).map fun k => g / 2 ^ k % 2)) = 0 := z3
  have z4 := xor_eq0 z3
  obtain ⟨w, hw⟩ := reach ht (List.zipWith (· ^^^ ·) (((List.range m).map Nat.succ).map (trow r g (m + 1) rv)) (((List.range m).map Nat.succ).map fun k => g / 2 ^ k % 2)) 1 (by
    rw [List.length_zipWith, List.length_map, List.length_map, List.length_map, List.length_map, List.length_range]
    omega) fun b hb => by
      rw [List.zipWith_map_left, List.zipWith_map_right] at hb
      obtain ⟨i, hi, e⟩ := List.getElem_of_mem hb
      rw [List.getElem_zipWith] at e
      rw [← e]
      have q1 := trow_lt (r := r) (g := g) (n := m + 1) (rv := rv) ((List.map Nat.succ (List.range m))[i]'(by rw [List.length_zipWith] at hi; omega))
      refine Nat.xor_lt_two_pow (n := 1) q1 ?_
      exact Nat.mod_lt _ (by decide)
  rw [← z4] at hw
  refine ⟨0, tot (q0 rv) (q1 rv) (trow r g (m + 1) rv) 0 + cst (q0 rv) (q1 rv) 0 (1 - trow r g (m + 1) rv 0) + w, by omega, ?_⟩
  unfold oth
  show (Qtab r g (m + 1) rv 1 (0 ^^^ (pw r g 0 * (1 - trow r g (m + 1) rv 0)))).map _ = some _
  rw [Nat.zero_xor, hw]
  rfl
end

/-! ## sat4 -/
/-! ### shared pieces -/
def somes (f : Nat → Option Int) (n : Nat) : List Int := (List.filter (fun k => !(f k).isNone) (List.range n)).map fun k => (f k).getD 0
theorem mem_somes {f : Nat → Option Int} {n : Nat} {x : Int} : x ∈ somes f n ↔ ∃ k, k < n ∧ f k = some x := by
  unfold somes
  constructor
  · intro h
    obtain ⟨k, hk, e⟩ := List.mem_map.mp h
    obtain ⟨h1, h2⟩ := List.mem_filter.mp hk
    refine ⟨k, List.mem_range.mp h1, ?_⟩
    cases q : f k with
    | none =>
      rw [q] at h2
      cases h2
    | some y =>
      rw [q] at e
      have e : y = x := e
      rw [e]
  · rintro ⟨k, hk, e⟩
    refine List.mem_map.mpr ⟨k, List.mem_filter.mpr ⟨List.mem_range.mpr hk, ?_⟩, ?_⟩
    · rw [e]
      rfl
    · rw [e]
      rfl
theorem set_at {G : List Ent} {j : Nat} {e : Ent} (h : j < G.length) : (G.set j e)[j]? = some e := List.getElem?_set_self h
theorem e_minS {K : PySem.W.Frag} {G : List Ent} {tl : TE} {j n : Nat} {f : Nat → Option Int} {W : Int} (h : EvO K tl G ((List.range n).map fun k => oD (f k))) (hn : n ≤ 300) (hj : j < G.length) (L : Low n f W) :
    EvD K (tCB (rMin K) (tCons (tLc (iList K tl) (gName j) (tTest (tOp rIsnt (tVar j) (tC .non))) (tVar j) [j]) tNil)) G (.int W) := by
  refine evd_min (ns := somes f n) ((EvF.toO (evf_lcL (l := List.range n) (fun k => oD (f k)) (fun k => !(f k).isNone) (fun k => oD (f k)) h (by rw [List.length_range]; omega) (fun k _ => ?_) fun k _ _ => evd_var (set_at hj))).eq ?_) ?_ ?_
  · refine (t_isnt (evd_var (set_at hj))).eq ?_
    rw [isN_oD]
  · unfold somes
    rw [List.map_map]
    refine List.map_congr_left fun k hk => ?_
    have h2 := (List.mem_filter.mp hk).2
    show oD (f k) = .int ((f k).getD 0)
    cases q : f k with
    | none =>
      rw [q] at h2
      cases h2
    | some y => rfl
  · exact mem_somes.mpr L.ex
  · intro y hy
    obtain ⟨k, hk, e⟩ := mem_somes.mp hy
    exact L.low k y hk e
theorem Lst.toLow {n : Nat} {f : Nat → Option Int} {W : Int} {st : Nat} (L : Lst n f W st) : Low n f W := ⟨⟨st, L.lt, L.at_⟩, L.low⟩
theorem wst_lt {bit : Nat → Nat → Nat} {P : Nat → Nat} {r k s : Nat} (hP : ∀ k, P k < 2 ^ r) (hb : ∀ k s, bit k s < 2) (hs : s < 2 ^ r) : ∀ i, wst bit P k s i < 2 ^ r
  | 0 => hs
  | i + 1 => xor_lt (wst_lt hP hb hs i) (mul_bit (hP _) (hb _ _))
theorem pat0 (st : Nat) : (List.replicate ((st : Nat) : Int).toNat [PyData.int 0]).flatten ++ [PyData.int 1] = (List.replicate st 0 ++ [1]).map iD := by
  rw [Int.toNat_natCast, rep_rng, List.map_append, List.map_replicate]
  refine congrArg (· ++ [PyData.int 1]) ?_
  refine List.ext_getElem? fun i => ?_
  by_cases hi : i < st
  · rw [List.getElem?_map, List.getElem?_range hi, List.getElem?_replicate, if_pos hi]
    rfl
  · rw [List.getElem?_eq_none (by rw [len_rng]; omega), List.getElem?_eq_none (by rw [List.length_replicate]; omega)]
/-- [0] * st + [1] -/
theorem e_pat0 {K : PySem.W.Frag} {G : List Ent} {tb : TE} {st : Nat} (h : EvD K tb G (iD st)) (hs : st ≤ 300) : EvF K (tOp rCat (tOp rRep (tLst (tCons (tC (.int 0)) tNil)) tb) (tLst (tCons (tC (.int 1)) tNil))) G ((List.replicate st 0 ++ [1]).map iD) :=
  (evf_cat (evf_rep (ds := [.int 0]) (k := (st : Int)) (evf_lst (a1 evd_int) (by decide)) h (by omega) (by omega) (by show 1 * _ ≤ _; omega)) (evf_lst (ds := [.int 1]) (a1 evd_int) (by decide)) (by rw [Int.toNat_natCast, rep_rng, len_rng]; show st + 1 ≤ _; omega)).eq (pat0 st)
theorem sum_nn : ∀ l : List Nat, 0 ≤ (l.map fun b : Nat => (b : Int)).sum
  | [] => Int.le_refl 0
  | b :: l => by
    rw [List.map_cons, List.sum_cons]
    have := sum_nn l
    omega
theorem t_all {K : PySem.W.Frag} {G : List Ent} {ta : TE} {α : Type} {l : List α} (h : EvF K ta G (l.map fun _ => PyData.bool true)) : EvD K (tCB (rAll K) (tCons ta tNil)) G (.bool true) :=
  (evd_all (bs := l.map fun _ => true) ((EvF.toO h).eq (by rw [List.map_map]; rfl))).eq (by rw [all_true])
/-- all([b in (0, 1) for b in row]) -/
theorem t_bits {K : PySem.W.Frag} {G : List Ent} {tl : TE} {j : Nat} {l : List Nat} (h : EvO K tl G (l.map iD)) (hl : l.length ≤ 1000) (hb : ∀ b ∈ l, b < 2) (hj : j < G.length) :
    EvD K (tCB (rAll K) (tCons (tLc (iList K tl) (gName j) tYes (tOp (rIn K false) (tVar j) (tTup (tCons (tC (.int 0)) (tCons (tC (.int 1)) tNil)))) [j]) tNil)) G (.bool true) :=
  t_all (l := l) (evf_lcL1 iD (fun _ => .bool true) h (by omega) fun b hm => evd_op (evd_var (set_at hj)) (evd_tup (a2 evd_int evd_int) (Nat.le_of_ble_eq_true rfl)) (rd_in01 (by have := hb b hm; omega)))
theorem x_c0 {K : PySem.W.Frag} {G : List Ent} {tb : TE} {c0 c1 : Nat → Int} {n k i : Nat} (h : G[i]? = some (.im (priD c0 c1 n))) (hb : EvD K tb G (iD k)) (hk : k < n) : EvD K (tOp (rIxT K) (tOp (rIxL K) (tVar i) tb) (tC (.int 0))) G (.int (c0 k)) :=
  x_2 (x := c0 k) (y := c1 k) (x_pri (evd_var h) hb hk) (c_nat 0) (by decide)
theorem i_neF {K : PySem.W.Frag} {G : List Ent} {ta tb : TE} {i : Int} (ha : EvD K ta G (.int i)) (hb : EvD K tb G (.int i)) : EvT K (tTest (tOp rNe ta tb)) G false := (i_ne ha hb).eq (by rw [decide_eq_true rfl]; rfl)
/-! ### the defs -/
theorem sat_least_unseen (K : PySem.W.Frag) : ∀ ds d, S_least_unseen ds d → Sat K (t_least_unseen K) (entry N_least_unseen ds) (fun _ => d = .none) d := by
  rintro ds d ⟨r, g, n, W, st, h, h1, h2, L, rfl, rfl⟩
  have h8 := pow8 h.r8
  have ht : Tb c00 c11 (pw r g) n (Wtab r g n) := tb_tab c00 c11 (pw r g) n
  have hlt := L.lt
  have hv := wgt_at L.at_
  generalize hT : Wtab r g n = T at *
  show Sat K (t_least_unseen K) [.im (iD g), .im (iD n), .no, .no, .no, .no, .no, .no, .no, .no, .no, .no] _ _
  unfold t_least_unseen
  refine q_seq (s_asg (d := papD r T n) (evd_call (a2 (dv 0) (dv 1)) ⟨r, g, n, h, h1, h2, rfl, by rw [hT]⟩) ?_)
  refine q_seq (s_asg (evd_call (a2 (dv 0) (dv 1)) ⟨r, g, n, h, by omega, rfl, rfl⟩) ?_)
  refine q_seq (s_asg (evd_call (a3 (dv 0) (dv 1) (dv 2)) ⟨r, g, n, T, h, h2, rfl, rfl⟩) ?_)
  refine q_seq (s_asg (e_minS (lv 4) h2 (Nat.le_of_ble_eq_true rfl) L.toLow) ?_)
  refine q_seq (s_asg (d := iD st) (evd_max (ns := (List.filter (fun k => decide (wgt (pw r g) T k = some W)) (List.range n)).map fun k : Nat => (k : Int)) ((EvF.toO (evf_lcR (n := n) (fun k => decide (wgt (pw r g) T k = some W)) (fun k => iD k) (a1 (dv 1)) (by omega) (fun k hk => ?t) fun k _ _ => dv 9)).eq ?e) ?m ?l) ?_)
  case t => exact evt_test (o_eq (a := wgt (pw r g) T k) (b := some W) (evd_ix (lv 4) (dv 9) (at_rng hk)) (dv 5))
  case e =>
    rw [List.map_map]
    rfl
  case m => exact List.mem_map.mpr ⟨st, List.mem_filter.mpr ⟨List.mem_range.mpr hlt, decide_eq_true L.at_⟩, rfl⟩
  case l =>
    intro y hy
    obtain ⟨k, hk, e⟩ := List.mem_map.mp hy
    obtain ⟨k1, k2⟩ := List.mem_filter.mp hk
    have := L.last k (List.mem_range.mp k1) (of_decide_eq_true k2)
    omega
  refine q_seq (s_asgF (e_pat0 (dv 6) (by omega)) ?_)
  refine q_seq (s_asg (x_pow rfl (dv 6) hlt) ?_)
  refine q_seq (s_for2 (lo := st + 1) (n := n) (a2 (n_add (dv 6) (c_nat 1)) (dv 1)) (by omega) (fun i => [.im (iD g), .im (iD n), .im (papD r T n), .im (powD (pw r g) n), .no, .im (.int W), .no,
    .ow ((List.replicate st 0 ++ [1] ++ wbits (tbit c00 T) (pw r g) (st + 1) (pw r g st) i).map iD), .im (iD (wst (tbit c00 T) (pw r g) (st + 1) (pw r g st) i)), .no, .no, .no]) ?w (fun i hi => ?b) ?d)
  case w =>
    walk_at "wk"
    · show Ent.ow _ = Ent.ow (List.map iD (List.replicate st 0 ++ [1] ++ []))
      rw [List.append_nil]
    · rfl
  case b =>
    have hk : st + 1 + i < n := hi
    have hs := wst_lt (bit := tbit c00 T) (k := st + 1) (pw_lt h) (tbit_lt c00 T) (pw_lt h st) i
    have hp := pw_lt h (st + 1 + i)
    have pv := path ht hv i (by omega)
    have hb := tbit_lt c00 T (st + 1 + i) (wst (tbit c00 T) (pw r g) (st + 1) (pw r g st) i)
    refine q_seq (s_asg (d := iD (tbit c00 T (st + 1 + i) (wst (tbit c00 T) (pw r g) (st + 1) (pw r g st) i))) (evd_if (evt_test (o_eq (x_lay (x_pap (dv 2) (n_add (dv 9) (c_nat 1)) (by omega)) (dv 8) hs) (x_lay (x_pap (dv 2) (dv 9) (by omega)) (dv 8) hs))) (fun z => ?t1) (fun z => ?t2)) ?_)
    case t1 =>
      have z := of_decide_eq_true z
      have e : tbit c00 T (st + 1 + i) (wst (tbit c00 T) (pw r g) (st + 1) (pw r g st) i) = 0 := by
        rw [tbit_some (z.trans pv), pv]
        exact if_pos (congrArg some (Int.add_zero _))
      rw [e]
      exact evd_int
    case t2 =>
      have z := of_decide_eq_false z
      have e : tbit c00 T (st + 1 + i) (wst (tbit c00 T) (pw r g) (st + 1) (pw r g st) i) = 1 := by
        cases q : T (st + 1 + i + 1) (wst (tbit c00 T) (pw r g) (st + 1) (pw r g st) i) with
        | none => exact tbit_none q
        | some x =>
          rw [q] at z
          rw [tbit_some q]
          exact if_neg fun e => z ((congrArg some (Int.add_zero x).symm).trans e)
      rw [e]
      exact evd_int
    refine q_seq (s_app rfl (dv 10) (by rw [List.length_map, List.length_append, List.length_append, List.length_replicate, wbits_len]; show st + 1 + i < _; omega) ?_)
    refine q_seq (s_asg (n_xor (dv 8) (n_mul (x_pow rfl (dv 9) hk) (dv 10) (by omega))) (s_next ?_))
    walk_at "wk"
    · rw [wbits_succ, ← List.append_assoc, List.map_append (l₂ := [tbit c00 T (st + 1 + i) (wst (tbit c00 T) (pw r g) (st + 1) (pw r g st) i)])]
      rfl
    · rfl
  case d => exact s_freeze (i := 7) rfl (q_seq (s_ret (evd_tup (a2 (dv 5) (dv 7)) (Nat.le_of_ble_eq_true rfl))))
theorem sat_check_unseen (K : PySem.W.Frag) : ∀ ds d, S_check_unseen ds d → Sat K (t_check_unseen K) (entry N_check_unseen ds) (fun _ => d = .none) d := by
  rintro ds d ⟨r, g, n, W, st, h, h1, h2, L, rfl, rfl⟩
  have ht : Tb c00 c11 (pw r g) n (Wtab r g n) := tb_tab c00 c11 (pw r g) n
  have hlt := L.lt
  have hv := wgt_at L.at_
  obtain ⟨z1, z2⟩ := lpat_facts ht L
  have hlen := lpat_len (P := pw r g) (T := Wtab r g n) hlt
  have hbit : ∀ b ∈ lpat (pw r g) (Wtab r g n) n st, b < 2 := lpat_bits
  have hW : 1 ≤ W := by
    obtain ⟨_, e2⟩ := path_end ht hv (by omega)
    rw [← wsum] at e2
    have := sum_nn (wbits (tbit c00 (Wtab r g n)) (pw r g) (st + 1) (pw r g st) (n - (st + 1)))
    omega
  show Sat K (t_check_unseen K) [.im (iD g), .im (iD n), .im (.int W), .im (natsD (lpat (pw r g) (Wtab r g n) n st)), .im (papD r (Wtab r g n) n), .no, .no] _ _
  generalize lpat (pw r g) (Wtab r g n) n st = pat at *
  unfold t_check_unseen
  refine q_seq (s_drop (evd_call (a2 (dv 0) (dv 1)) ⟨r, g, n, h, h1, h2, rfl, rfl⟩) ?_)
  refine q_seq (s_ifF (evt_orF (i_neF (i := n) ((n_len (lv 3)).eq (by rw [hlen])) (dv 1)) (evt_orF ((evt_not (evt_B (t_bits (lv 3) (by omega) hbit (Nat.le_of_ble_eq_true rfl)))).eq rfl) (evt_orF (i_neF (i := W) ((evd_sum (ns := pat.map fun b : Nat => (b : Int)) ((lv 3).eq ?q1)).eq (by rw [z2])) (dv 2)) ((i_lt (dv 2) evd_int).eq (decide_eq_false (by omega)))))) (s_next ?_))
  case q1 =>
    rw [List.map_map]
    rfl
  refine q_seq (s_ifF (evt_orF (i_neF (i := ((0 : Nat) : Int)) (evd_call (a2 (dv 0) (dv 3)) ⟨r, g, pat, h, hbit, by omega, rfl, ?q2⟩) evd_int) ((evt_not (evt_B (evd_call (d := .bool true) (a3 (dv 0) (e_unit (dv 1) h2) (dv 4)) ⟨r, g, n, c00, c11, h, h2, rfl, rfl⟩))).eq rfl)) (s_next ?_))
  case q2 =>
    rw [rst_xsum h pat hbit, z1]
  refine q_seq (s_ret (t_all (l := List.range n) (evf_lcL1 (fun k => oD (wgt (pw r g) (Wtab r g n) k)) (fun _ => .bool true) (EvD.toO (evd_call (a3 (dv 0) (dv 1) (dv 4)) ⟨r, g, n, Wtab r g n, h, h2, rfl, rfl⟩)) (by rw [List.length_range]; omega) fun k hk => ?_)))
  have hk := List.mem_range.mp hk
  cases q : wgt (pw r g) (Wtab r g n) k with
  | none => exact (evd_or (a := true) (b := true) (e_is (d := .none) (dv 6)) (fun z => nomatch z))
  | some w =>
    refine (evd_or (a := false) (b := decide (W ≤ w)) (e_is (d := .int w) (dv 6)) (fun _ => evd_op (d := .int W) (e := .int w) (dv 2) (dv 6) (rd_0 fun _ => .bl _))).eq ?_
    rw [decide_eq_true (L.low k w hk q)]
    rfl
theorem sat_nearest (K : PySem.W.Frag) : ∀ ds d, S_nearest ds d → Sat K (t_nearest K) (entry N_nearest ds) (fun _ => d = .none) d := by
  rintro ds d ⟨r, g, n, rv, h, h1, h2, rfl, rfl⟩
  have h8 := pow8 h.r8
  show Sat K (t_nearest K) [.im (iD g), .im (recD rv n), .no, .no, .no, .no, .no, .no, .no, .no] _ _
  unfold t_nearest
  refine q_seq (s_drop (evd_call (a2 (dv 0) (n_lenR (lv 1))) ⟨r, g, n, h, h1, h2, rfl, rfl⟩) ?_)
  refine q_seq (s_asg (evd_call (a1 (dv 1)) ⟨n, rv, h2, rfl, rfl⟩) ?_)
  refine q_seq (s_asg (evd_call (a2 (dv 0) (n_lenR (lv 1))) ⟨r, g, n, h, by omega, rfl, rfl⟩) ?_)
  refine q_seq (s_asg (d := papD r (Qtab r g n rv) n) (evd_call (a2 (dv 0) (dv 2)) ⟨r, g, n, q0 rv, q1 rv, h, h2, rfl, rfl⟩) ?_)
  refine q_seq (s_asgF (evf_lst eva_nil (by decide)) ?_)
  refine q_seq (s_asg (c_nat 0) ?_)
  refine q_seq (s_for1 (n := n) (a1 (n_lenR (lv 1))) (by omega) (fun i => [.im (iD g), .im (recD rv n), .im (priD (q0 rv) (q1 rv) n), .im (powD (pw r g) n), .im (papD r (Qtab r g n rv) n),
    .ow ((List.range i).map fun k => iD (trow r g n rv k)), .im (iD (wst (tbit (q0 rv) (Qtab r g n rv)) (pw r g) 0 0 i)), .no, .no, .no]) ?w (fun k hk => ?b) ?d)
  case w =>
    walk_at "wk"
    all_goals rfl
  case b =>
    have hs := wst_lt (bit := tbit (q0 rv) (Qtab r g n rv)) (k := 0) (pw_lt h) (tbit_lt (q0 rv) (Qtab r g n rv)) (Nat.two_pow_pos r) k
    have hp := pw_lt h k
    have hb := trow_lt (r := r) (g := g) (n := n) (rv := rv) k
    have et : trow r g n rv k = tbit (q0 rv) (Qtab r g n rv) k (wst (tbit (q0 rv) (Qtab r g n rv)) (pw r g) 0 0 k) := rfl
    have ew : wst (tbit (q0 rv) (Qtab r g n rv)) (pw r g) 0 0 (k + 1) = wst (tbit (q0 rv) (Qtab r g n rv)) (pw r g) 0 0 k ^^^ (pw r g k * trow r g n rv k) := by
      show wst (tbit (q0 rv) (Qtab r g n rv)) (pw r g) 0 0 k ^^^ (pw r g (0 + k) * tbit (q0 rv) (Qtab r g n rv) (0 + k) (wst (tbit (q0 rv) (Qtab r g n rv)) (pw r g) 0 0 k)) = _
      rw [Nat.zero_add]
      rfl
    rw [ew]
    generalize wst (tbit (q0 rv) (Qtab r g n rv)) (pw r g) 0 0 k = s at *
    generalize hbt : trow r g n rv k = b at *
    refine q_seq (s_asg (x_lay (x_pap (dv 4) (n_add (dv 7) (c_nat 1)) (by omega)) (dv 6) hs) ?_)
    refine q_seq (s_asg (c_nat 1) ?_)
    -- the bit
    have fin : Sat K (tSeq (tDrop (tBM K "list" rAppend (tVar 5) (tCons (tVar 9) tNil)))
  (tSeq (tAsg (tOp xXor (tVar 6) (tOp xMul (tOp (rIxL K) (tVar 3) (tVar 7)) (tVar 9))) (gName 6))
  tNext)) [.im (iD g), .im (recD rv n), .im (priD (q0 rv) (q1 rv) n), .im (powD (pw r g) n), .im (papD r (Qtab r g n rv) n),
    .ow ((List.range k).map fun k => iD (trow r g n rv k)), .im (iD s), .im (iD k), .no, .im (iD b)] (fun G => Wk G [.im (iD g), .im (recD rv n), .im (priD (q0 rv) (q1 rv) n), .im (powD (pw r g) n), .im (papD r (Qtab r g n rv) n),
    .ow ((List.range (k + 1)).map fun k => iD (trow r g n rv k)), .im (iD (s ^^^ (pw r g k * b))), .no, .no, .no]) (.tuple [rowD (trow r g n rv) n, oD (Qtab r g n rv 0 0), papD r (Qtab r g n rv) n]) := by
      refine q_seq (s_app rfl (dv 9) (by rw [len_rng]; omega) ?_)
      refine q_seq (s_asg (n_xor (dv 6) (n_mul (x_pow rfl (dv 7) hk) (dv 9) (by omega))) (s_next ?_))
      walk_at "wk"
      rw [rng_succ, hbt]
    cases q : Qtab r g n rv (k + 1) s with
    | none =>
      rw [tbit_none q] at et
      refine q_seq (s_ifF (evt_andF (t_isntN (dv 8))) (s_next (s_weak ?_ fin)))
      rw [et]
      walk_at "wk"
    | some x =>
      rw [tbit_some q] at et
      refine q_seq (s_if (evt_andT (t_isntS (x := x) (dv 8)) (evt_test (o_eq (a := some (x + q0 rv k)) (b := Qtab r g n rv k s) (i_add (i := x) (dv 8) (x_c0 rfl (dv 7) hk)) (x_lay (x_pap (dv 4) (dv 7) (by omega)) (dv 6) hs)))) (fun z => q_seq (s_asg (c_nat 0) (s_next (s_weak ?_ fin)))) (fun z => s_next (s_weak ?_ fin)))
      · rw [if_pos (of_decide_eq_true z)] at et
        rw [et]
        walk_at "wk"
      · rw [if_neg (of_decide_eq_false z)] at et
        rw [et]
        walk_at "wk"
  case d => exact s_freeze (i := 5) rfl (q_seq (s_ret (evd_tup (a3 (dv 5) (x_lay (x_pap (dv 4) (c_nat 0) (Nat.zero_le n)) (c_nat 0) (Nat.two_pow_pos r)) (dv 4)) (Nat.le_of_ble_eq_true rfl))))
theorem row_nats (row : Nat → Nat) (n : Nat) : rowD row n = natsD ((List.range n).map row) := by
  unfold rowD natsD
  rw [List.map_map]
  rfl
theorem sat_check_nearest (K : PySem.W.Frag) : ∀ ds d, S_check_nearest ds d → Sat K (t_check_nearest K) (entry N_check_nearest ds) (fun _ => d = .none) d := by
  rintro ds d ⟨r, g, n, rv, v, h, h1, h2, hrv, hv, rfl, rfl⟩
  obtain ⟨z1, z2⟩ := trow_facts hv
  have hbit : ∀ b ∈ (List.range n).map (trow r g n rv), b < 2 := fun b hb => by
    obtain ⟨j, _, rfl⟩ := List.mem_map.mp hb
    exact trow_lt j
  have hlen : ((List.range n).map (trow r g n rv)).length = n := by rw [List.length_map, List.length_range]
  show Sat K (t_check_nearest K) [.im (iD g), .im (recD rv n), .im (rowD (trow r g n rv) n), .im (.int v), .im (papD r (Qtab r g n rv) n), .no, .no, .no, .no] _ _
  unfold t_check_nearest
  refine q_seq (s_asg (n_lenR (lv 1)) ?_)
  refine q_seq (s_drop (evd_call (a2 (dv 0) (dv 5)) ⟨r, g, n, h, h1, h2, rfl, rfl⟩) ?_)
  refine q_seq (s_ifF (evt_orF (i_neF (i := n) (n_lenR (lv 2)) (dv 5)) (evt_orF ((evt_not (evt_B (t_bits (l := (List.range n).map (trow r g n rv)) ((lv 2).eq ?q1) (by omega) hbit (Nat.le_of_ble_eq_true rfl)))).eq rfl) (i_neF (i := ((0 : Nat) : Int)) (evd_call (a2 (dv 0) (dv 2)) ⟨r, g, (List.range n).map (trow r g n rv), h, hbit, by omega, by rw [row_nats], ?q2⟩) evd_int))) (s_next ?_))
  case q1 =>
    rw [List.map_map]
    rfl
  case q2 => rw [rst_xsum h _ hbit, z1]
  refine q_seq (s_ifF (evt_orF (i_neF (i := v) (evd_call (a2 (dv 1) (dv 2)) ⟨n, rv, trow r g n rv, h2, hrv, trow_lt, rfl, by rw [z2]⟩) (dv 3)) ((evt_not (evt_B (evd_call (d := .bool true) (a3 (dv 0) (evd_call (a1 (dv 1)) ⟨n, rv, h2, rfl, rfl⟩) (dv 4)) ⟨r, g, n, q0 rv, q1 rv, h, h2, rfl, rfl⟩))).eq rfl)) (s_next ?_))
  refine q_seq (s_asg (evd_call (a4 (dv 0) (dv 1) (dv 2) (dv 4)) ⟨r, g, n, rv, Qtab r g n rv, trow r g n rv, h, h2, trow_lt, rfl, rfl⟩) ?_)
  refine q_seq (s_ret (t_all (l := List.range n) (evf_lcR1 (n := n) (fun _ => .bool true) (a1 (dv 5)) (by omega) fun k hk => ?_)))
  have xk : EvD K (tOp (rIxL K) (tVar 6) (tVar 8)) [.im (iD g), .im (recD rv n), .im (rowD (trow r g n rv) n), .im (.int v), .im (papD r (Qtab r g n rv) n), .im (iD n), .im (.list ((List.range n).map fun k => oD (oth (q0 rv) (q1 rv) (pw r g) (Qtab r g n rv) (trow r g n rv) k))), .no, .im (iD k)] (oD (oth (q0 rv) (q1 rv) (pw r g) (Qtab r g n rv) (trow r g n rv) k)) := evd_ix (lv 6) (dv 8) (at_rng hk)
  cases q : oth (q0 rv) (q1 rv) (pw r g) (Qtab r g n rv) (trow r g n rv) k with
  | none =>
    rw [q] at xk
    exact evd_or (a := true) (b := true) (e_is (d := .none) xk) (fun z => nomatch z)
  | some x =>
    rw [q] at xk
    refine (evd_or (a := false) (b := decide (v + (trow r g n rv k : Int) ≤ x)) (e_is (d := .int x) xk) (fun _ => evd_op (d := .int x) (e := .int (v + (trow r g n rv k : Int))) xk (i_add (dv 3) (x_row rfl (dv 8) hk)) (rd_0 fun _ => .bl _))).eq ?_
    rw [decide_eq_true (oth_low hv hk q)]
    rfl
theorem sat_margin (K : PySem.W.Frag) : ∀ ds d, S_margin ds d → Sat K (t_margin K) (entry N_margin ds) (fun _ => d = .none) d := by
  rintro ds d ⟨r, g, n, rv, v, M, h, h1, h2, hv, L, rfl, rfl⟩
  show Sat K (t_margin K) [.im (iD g), .im (recD rv n), .no, .no, .no, .no] _ _
  unfold t_margin
  refine q_seq (s_unpack3 (evd_call (a2 (dv 0) (dv 1)) ⟨r, g, n, rv, h, h1, h2, rfl, rfl⟩) ?_)
  rw [hv]
  exact q_seq (s_ret (i_sub (e_minS (EvD.toO (evd_call (a4 (dv 0) (dv 1) (dv 2) (dv 4)) ⟨r, g, n, rv, Qtab r g n rv, trow r g n rv, h, h2, trow_lt, rfl, rfl⟩)) h2 (Nat.le_of_ble_eq_true rfl) L) (dv 3)))

/-! ## sat5 -/
/-! ### lists changed by place -/
def lj (f h : Nat → Option Int) (j s : Nat) : Option Int := if s < j then h s else f s
theorem lj_at (f h : Nat → Option Int) (j : Nat) : lj f h j j = f j := if_neg (Nat.lt_irrefl j)
theorem lj_set {f h : Nat → Option Int} {j n : Nat} {d : PyData} (hd : oD (h j) = d) : ((List.range n).map fun s => oD (lj f h j s)).set j d = (List.range n).map fun s => oD (lj f h (j + 1) s) :=
  rng_set (by
    show oD (if j < j + 1 then h j else f j) = d
    rw [if_pos (Nat.lt_succ_self j)]
    exact hd) fun s _ hs => by
    show oD (if s < j + 1 then h s else f s) = oD (if s < j then h s else f s)
    by_cases q : s < j
    · rw [if_pos q, if_pos (by omega)]
    · rw [if_neg q, if_neg (by omega)]
theorem lj_same {f h : Nat → Option Int} {j n : Nat} (hd : h j = f j) : ((List.range n).map fun s => oD (lj f h j s)) = (List.range n).map fun s => oD (lj f h (j + 1) s) :=
  rng_congr fun s _ => by
    show oD (if s < j then h s else f s) = oD (if s < j + 1 then h s else f s)
    by_cases q : s < j
    · rw [if_pos q, if_pos (by omega)]
    · by_cases e : s = j
      · subst e
        rw [if_neg q, if_pos (by omega), hd]
      · rw [if_neg q, if_neg (by omega)]
theorem lj_all {f h : Nat → Option Int} {n : Nat} : ((List.range n).map fun s => oD (lj f h n s)) = (List.range n).map fun s => oD (h s) :=
  rng_congr fun s hs => by
    show oD (if s < n then h s else f s) = _
    rw [if_pos hs]
abbrev stp1 (p : Int × Int) : PyData := .tuple [.int p.1, .int p.2]
theorem prf_len (P : Nat → Nat) : ∀ i, (prf P i).length ≤ i
  | 0 => Nat.le_refl 0
  | i + 1 => by
    have ih := prf_len P i
    show (pnew (prf P i) (i + 1) (pfl P (i + 1) 0)).length ≤ i + 1
    unfold pnew
    split
    · omega
    · split
      · rw [List.length_append]
        show _ + 1 ≤ _
        omega
      · split
        · rw [List.length_append]
          show _ + 1 ≤ _
          omega
        · omega
theorem rep_int (n : Nat) (d : PyData) : (List.replicate ((n : Int)).toNat [d]).flatten = (List.range n).map fun _ => d := by
  rw [Int.toNat_natCast, rep_rng]
theorem last_stp {st : List (Int × Int)} {p : Int × Int} (h : st.getLast? = some p) : atI (st.map stp1) (-1) = some (stp1 p) := by
  rw [List.getLast?_eq_getElem?] at h
  have hl := (List.getElem?_eq_some_iff.mp h).1
  refine at_last (k := st.length - 1) (by rw [List.length_map]; omega) ?_
  rw [List.getElem?_map, h]
  rfl
def lowB (o : Option Int) (w : Int) : Bool := match o with
  | none => true
  | some v => decide (w + 1 < v)
def toldB (o : Option (Int × Int)) (w : Int) : Bool := match o with
  | none => true
  | some p => decide (w < p.2)
/-- if prices[state] is to be lowered -/
theorem t_low {K : PySem.W.Frag} {G : List Ent} {tr tp : TE} {w : Int} {o : Option Int} (hr : EvD K tr G (.int w)) (hp : EvD K tp G (oD o)) :
    EvT K (tAnd (tTest (tOp rIsnt tr (tC .non))) (tOr (tTest (tOp rIs tp (tC .non))) (tTest (tOp xLt (tOp xAdd tr (tC (.int 1))) tp)))) G (lowB o w) := by
  cases o with
  | none => exact evt_andT (t_isntS hr) (evt_orT (t_isN hp))
  | some v => exact evt_andT (t_isntS hr) (evt_orF (t_isS (x := v) hp) (i_lt (j := v) (i_add hr evd_int) hp))
theorem pup_none {P : Nat → Nat} {k s : Nat} {f : Nat → Option Int} (h : f (s ^^^ P k) = none) : pup P k f s = f s := by
  unfold pup
  rw [h]
theorem pup_some {P : Nat → Nat} {k s : Nat} {w : Int} {f : Nat → Option Int} (h : f (s ^^^ P k) = some w) : pup P k f s = if lowB (f s) w = true then some (w + 1) else f s := by
  unfold pup
  rw [h]
  cases q : f s with
  | none => rfl
  | some v =>
    show (if w + 1 < v then some (w + 1) else some v) = if decide (w + 1 < v) = true then some (w + 1) else some v
    by_cases z : w + 1 < v
    · rw [if_pos z, if_pos (decide_eq_true z)]
    · rw [if_neg z, if_neg (by rw [decide_eq_false z]; exact Bool.false_ne_true)]
theorem pnew_none {st : List (Int × Int)} {k : Nat} : pnew st k none = st := rfl
theorem pnew_some {st : List (Int × Int)} {k : Nat} {w : Int} : pnew st k (some w) = if (toldB st.getLast? w) = true then st ++ [((k : Int) + 1, w)] else st := by
  unfold pnew
  cases q : st.getLast? with
  | none => rfl
  | some p =>
    show (if w < p.2 then st ++ [((k : Int) + 1, w)] else st) = if decide (w < p.2) = true then st ++ [((k : Int) + 1, w)] else st
    by_cases z : w < p.2
    · rw [if_pos z, if_pos (decide_eq_true z)]
    · rw [if_neg z, if_neg (by rw [decide_eq_false z]; exact Bool.false_ne_true)]
theorem last_none {st : List (Int × Int)} (h : st.getLast? = none) : st = [] := by
  cases st with
  | nil => rfl
  | cons a l =>
    rw [List.getLast?_cons] at h
    cases h
/-- if a step is to be told -/
theorem t_told {K : PySem.W.Frag} {G : List Ent} {tp : TE} {te : TT} {i : Nat} {w : Int} {st : List (Int × Int)} (hp : EvD K tp G (.int w)) (ho : G[i]? = some (.ow (st.map stp1))) (he : EvT K te G st.isEmpty) :
    EvT K (tAnd (tTest (tOp rIsnt tp (tC .non))) (tOr te (tTest (tOp xLt tp (tOp (rIxT K) (tOp (rIxL K) (tVar i) (tUn xNeg (tC (.int 1)))) (tC (.int 1))))))) G (toldB st.getLast? w) := by
  cases q : st.getLast? with
  | none =>
    have e := last_none q
    subst e
    exact evt_andT (t_isntS hp) (evt_orT he)
  | some p =>
    have e : st.isEmpty = false := by
      cases st with
      | nil => cases q
      | cons a l => rfl
    rw [e] at he
    exact evt_andT (t_isntS hp) (evt_orF he (i_lt hp (x_2 (x := p.1) (y := p.2) (evd_ix (evo_var ho) (i_neg evd_int) (last_stp q)) (c_nat 1) (by decide))))
theorem t_low0 {K : PySem.W.Frag} {G : List Ent} {tr : TE} {u : TT} (hr : EvD K tr G .none) : EvT K (tAnd (tTest (tOp rIsnt tr (tC .non))) u) G false := evt_andF (t_isntN hr)
/-! ### data is shaped -/
theorem canL {α : Type} {f : α → PyData} (h : ∀ a, (f a).canLay0 = true) : ∀ l : List α, PyData.canLayAll0 (l.map f) = true
  | [] => rfl
  | a :: l => by
    show ((f a).canLay0 && PyData.canLayAll0 (l.map f)) = true
    rw [h a, canL h l]
    rfl
theorem depL {α : Type} {f : α → PyData} {m : Nat} (h : ∀ a, (f a).depth ≤ m) : ∀ l : List α, PyData.depthAll (l.map f) ≤ m
  | [] => Nat.zero_le m
  | a :: l => by
    show max (f a).depth (PyData.depthAll (l.map f)) ≤ m
    exact Nat.max_le.mpr ⟨h a, depL h l⟩
structure Shp (m : Nat) (d : PyData) : Prop where
  can : d.canLay0 = true
  dep : d.depth ≤ m
theorem Shp.ok {m : Nat} {d : PyData} (h : Shp m d) (hm : m ≤ 64) : SeqAt.shaped d = true := by
  unfold SeqAt.shaped
  rw [h.can, decide_eq_true (Nat.le_trans h.dep hm)]
  rfl
theorem Shp.lst {α : Type} {f : α → PyData} {m : Nat} (h : ∀ a, Shp m (f a)) (l : List α) : Shp (m + 1) (.list (l.map f)) :=
  ⟨canL (fun a => (h a).can) l, Nat.succ_le_succ (depL (fun a => (h a).dep) l)⟩
theorem Shp.int (i : Int) : Shp 0 (.int i) := ⟨rfl, Nat.le_refl 0⟩
theorem Shp.oD : ∀ o : Option Int, Shp 0 (oD o)
  | none => ⟨rfl, Nat.le_refl 0⟩
  | some i => ⟨rfl, Nat.le_refl 0⟩
theorem shp_stp1 (p : Int × Int) : Shp 1 (stp1 p) := ⟨rfl, Nat.le_refl 1⟩
theorem shaped_stp (st : List (Int × Int)) : SeqAt.shaped (.list (st.map stp1)) = true := (Shp.lst shp_stp1 st).ok (by decide)
theorem emp_stp (st : List (Int × Int)) : (!(!(st.map stp1).isEmpty)) = st.isEmpty := by
  cases st <;> rfl
theorem emp_stp2 (st : List (Int × Int)) : PyData.eqv (.list (st.map stp1)) (.list []) = st.isEmpty := by
  cases st <;> rfl
/-- a slot's own list, compared -/
theorem evt_eqO {K : PySem.W.Frag} {G : List Ent} {ta tb : TE} {ds : List PyData} {e : PyData} (ha : EvO K ta G ds) (hb : EvD K tb G e) (h1 : SeqAt.shaped (.list ds) = true) (h2 : SeqAt.shaped e = true) : EvD K (tOp (rEqD K) ta tb) G (.bool (PyData.eqv (.list ds) e)) := fun Hb0 Hb H0 H σ R Q q =>
  ha Hb0 Hb H0 H σ R _ fun p xs H1 e1 hs a => hb Hb0 Hb _ H1 σ (R.ext e1) _ fun u H2 e2 hu =>
    ⟨.list ds, e, .lst (Evl.ex_l e2 hs) (dpam (Evl.Ex.trans (join_sub R.ex0 e1) e2) a), dpm (join_sub (R.ext e1).ex0 e2) hu, h1, h2, q _ H2 (Evl.Ex.trans e1 e2) (.bl _)⟩
theorem sat_profile (K : PySem.W.Frag) : ∀ ds d, S_profile ds d → Sat K (t_profile K) (entry N_profile ds) (fun _ => d = .none) d := by
  rintro ds d ⟨r, g, n, h, h1, h2, rfl, rfl⟩
  have h8' := pow8 h.r8
  have hp2 : 2 ^ 1 ≤ 2 ^ r := Nat.pow_le_pow_right (by decide) h.r1
  show Sat K (t_profile K) [.im (iD g), .im (iD n), .no, .no, .no, .no, .no, .no, .no] _ _
  unfold t_profile
  refine q_seq (s_drop (evd_call (a2 (dv 0) (dv 1)) ⟨r, g, n, h, h1, h2, rfl, rfl⟩) ?_)
  refine q_seq (s_asg (evd_call (a2 (dv 0) (dv 1)) ⟨r, g, n, h, by omega, rfl, rfl⟩) ?_)
  refine q_seq (s_asgF ((evf_rep (ds := [.none]) (k := ((2 ^ r : Nat) : Int)) (evf_lst (a1 evd_non) (by decide)) (evd_call (a1 (dv 0)) ⟨r, g, h, rfl, rfl⟩) (by omega) (by omega) (by show 1 * _ ≤ _; omega)).eq (rep_int _ _)) ?_)
  refine q_seq (s_setitem (i := 3) (j := 1) rfl evd_int (c_nat 1) (by rw [len_rng]; omega) ?_)
  refine q_seq (s_asgF (evf_lst eva_nil (by decide)) ?_)
  refine q_seq (s_for2 (lo := 1) (n := n) (a2 (c_nat 1) (dv 1)) (by omega) (fun i => [.im (iD g), .im (iD n), .im (powD (pw r g) n), .ow ((List.range (2 ^ r)).map fun s => oD (pfl (pw r g) i s)), .ow ((prf (pw r g) i).map stp1), .no, .no, .no, .no]) ?w (fun i hi => ?b) ?d)
  case w =>
    walk_at "wk"
    · exact congrArg Ent.ow (rng_set (g := fun s => oD (pf0 s)) rfl fun j _ hj => by
        show oD (if j = 1 then some 1 else none) = .none
        rw [if_neg hj]
        rfl)
    · rfl
  case b =>
    rw [Nat.add_comm 1 i]
    have hk : i + 1 < n := by omega
    have hP := pw_lt h (i + 1)
    have hf : pfl (pw r g) (i + 1) = pup (pw r g) (i + 1) (pfl (pw r g) i) := rfl
    have hpr : prf (pw r g) (i + 1) = pnew (prf (pw r g) i) (i + 1) (pup (pw r g) (i + 1) (pfl (pw r g) i) 0) := rfl
    have hlen := prf_len (pw r g) i
    rw [hf, hpr]
    generalize prf (pw r g) i = st at *
    generalize pfl (pw r g) i = f at *
    refine q_seq (s_asgF (evf_list (ov 3)) ?_)
    refine q_seq (s_for1 (n := 2 ^ r) (a1 (evd_call (a1 (dv 0)) ⟨r, g, h, rfl, rfl⟩)) (by omega) (fun j => [.im (iD g), .im (iD n), .im (powD (pw r g) n), .ow ((List.range (2 ^ r)).map fun s => oD (lj f (pup (pw r g) (i + 1) f) j s)), .ow (st.map stp1), .im (iD (i + 1)), .ow ((List.range (2 ^ r)).map fun s => oD (f s)), .no, .no]) ?w2 (fun s hs => ?b2) ?d2)
    case w2 =>
      walk_at "wk"
      rfl
    case b2 =>
      refine q_seq (s_asg (evd_ix (ov 6) (n_xor (dv 7) (x_pow rfl (dv 5) hk)) (at_rng (xor_lt hs hP))) ?_)
      cases q : f (s ^^^ (pw r g) (i + 1)) with
      | none =>
        refine q_seq (s_ifF (t_low0 (dv 8)) (s_next (s_next ?_)))
        walk_at "wk"
        exact congrArg Ent.ow (lj_same (pup_none q))
      | some w =>
        refine q_seq (s_if (t_low (w := w) (o := f s) (dv 8) ((evd_ix (ov 3) (dv 7) (at_rng hs)).eq (congrArg oD (lj_at ..)))) (fun z => q_seq (s_setitem (i := 3) (j := s) rfl (i_add (i := w) (dv 8) evd_int) (dv 7) (by rw [len_rng]; exact hs) (s_next (s_next ?_)))) (fun z => s_next (s_next ?_)))
        · walk_at "wk"
          refine congrArg Ent.ow (lj_set ?_)
          rw [pup_some q, if_pos z]
          rfl
        · walk_at "wk"
          refine congrArg Ent.ow (lj_same ?_)
          rw [pup_some q, if_neg (by rw [z]; exact Bool.false_ne_true)]
    case d2 =>
      rw [lj_all]
      have x0 : ∀ (e : Ent) (es : List Ent), EvD K (tOp (rIxL K) (tVar 3) (tC (.int 0))) (.im (iD g) :: .im (iD n) :: .im (powD (pw r g) n) :: .ow ((List.range (2 ^ r)).map fun s => oD (pup (pw r g) (i + 1) f s)) :: e :: es) (oD (pup (pw r g) (i + 1) f 0)) := fun e es => evd_ix (ov 3) (c_nat 0) (at_rng (Nat.two_pow_pos r))
      cases q : pup (pw r g) (i + 1) f 0 with
      | none =>
        rw [q] at x0
        refine q_seq (s_ifF (t_low0 (x0 _ _)) (s_next (s_next ?_)))
        rw [pnew_none]
        walk_at "wk"
      | some w =>
        rw [q] at x0
        refine q_seq (s_if (t_told (i := 4) (w := w) (st := st) (x0 _ _) rfl ((evt_not (evt_truth (ov 4))).eq (emp_stp st))) (fun z => q_seq (s_app (ds := st.map stp1) rfl (evd_tup (a2 (i_add (dv 5) evd_int) (x0 _ _)) (Nat.le_of_ble_eq_true rfl)) (by rw [List.length_map]; omega) (s_next (s_next ?_)))) (fun z => s_next (s_next ?_)))
        · rw [pnew_some, if_pos z]
          walk_at "wk"
          rw [List.map_append]
          rfl
        · rw [pnew_some, if_neg (by rw [z]; exact Bool.false_ne_true)]
          walk_at "wk"
  case d => exact q_seq (s_retO rfl)
theorem sat_law_profile (K : PySem.W.Frag) : ∀ ds d, S_law_profile ds d → Sat K (t_law_profile K) (entry N_law_profile ds) (fun _ => d = .none) d := by
  rintro ds d ⟨r, P, m, n, h1, h8, hn1, hn, hm, hPP, rfl, rfl⟩
  have h8' := pow8 h8
  have hp2 : 2 ^ 1 ≤ 2 ^ r := Nat.pow_le_pow_right (by decide) h1
  show Sat K (t_law_profile K) [.im (iD r), .im (powD P m), .im (iD n), .no, .no, .no, .no, .no, .no] _ _
  unfold t_law_profile
  refine q_seq (s_asgF ((evf_rep (ds := [.none]) (k := ((2 ^ r : Nat) : Int)) (evf_lst (a1 evd_non) (by decide)) ((n_shl (c_nat 1) (dv 0) (by decide) (by omega)).eq (congrArg iD (Nat.one_mul _))) (by omega) (by omega) (by show 1 * _ ≤ _; omega)).eq (rep_int _ _)) ?_)
  refine q_seq (s_setitem (i := 3) (j := 1) rfl evd_int (c_nat 1) (by rw [len_rng]; omega) ?_)
  refine q_seq (s_asgF (evf_lst eva_nil (by decide)) ?_)
  refine q_seq (s_for2 (lo := 1) (n := n) (a2 (c_nat 1) (dv 2)) (by omega) (fun i => [.im (iD r), .im (powD P m), .im (iD n), .ow ((List.range (2 ^ r)).map fun s => oD (pfl P i s)), .ow ((prf P i).map stp1), .no, .no, .no, .no]) ?w (fun i hi => ?b) ?d)
  case w =>
    walk_at "wk"
    · exact congrArg Ent.ow (rng_set (g := fun s => oD (pf0 s)) rfl fun j _ hj => by
        show oD (if j = 1 then some 1 else none) = .none
        rw [if_neg hj]
        rfl)
    · rfl
  case b =>
    rw [Nat.add_comm 1 i]
    have hk : i + 1 < n := by omega
    have hP := hPP (i + 1)
    have hf : pfl P (i + 1) = pup P (i + 1) (pfl P i) := rfl
    have hpr : prf P (i + 1) = pnew (prf P i) (i + 1) (pup P (i + 1) (pfl P i) 0) := rfl
    have hlen := prf_len P i
    rw [hf, hpr]
    generalize prf P i = st at *
    generalize pfl P i = f at *
    refine q_seq (s_asgF (evf_list (ov 3)) ?_)
    refine q_seq (s_for1 (n := 2 ^ r) (a1 ((n_shl (c_nat 1) (dv 0) (by decide) (by omega)).eq (congrArg iD (Nat.one_mul _)))) (by omega) (fun j => [.im (iD r), .im (powD P m), .im (iD n), .ow ((List.range (2 ^ r)).map fun s => oD (lj f (pup P (i + 1) f) j s)), .ow (st.map stp1), .im (iD (i + 1)), .ow ((List.range (2 ^ r)).map fun s => oD (f s)), .no, .no]) ?w2 (fun s hs => ?b2) ?d2)
    case w2 =>
      walk_at "wk"
      rfl
    case b2 =>
      refine q_seq (s_asg (evd_ix (ov 6) (n_xor (dv 7) (x_pow rfl (dv 5) (by omega))) (at_rng (xor_lt hs hP))) ?_)
      cases q : f (s ^^^ P (i + 1)) with
      | none =>
        refine q_seq (s_ifF (t_low0 (dv 8)) (s_next (s_next ?_)))
        walk_at "wk"
        exact congrArg Ent.ow (lj_same (pup_none q))
      | some w =>
        refine q_seq (s_if (t_low (w := w) (o := f s) (dv 8) ((evd_ix (ov 3) (dv 7) (at_rng hs)).eq (congrArg oD (lj_at ..)))) (fun z => q_seq (s_setitem (i := 3) (j := s) rfl (i_add (i := w) (dv 8) evd_int) (dv 7) (by rw [len_rng]; exact hs) (s_next (s_next ?_)))) (fun z => s_next (s_next ?_)))
        · walk_at "wk"
          refine congrArg Ent.ow (lj_set ?_)
          rw [pup_some q, if_pos z]
          rfl
        · walk_at "wk"
          refine congrArg Ent.ow (lj_same ?_)
          rw [pup_some q, if_neg (by rw [z]; exact Bool.false_ne_true)]
    case d2 =>
      rw [lj_all]
      have x0 : ∀ (e : Ent) (es : List Ent), EvD K (tOp (rIxL K) (tVar 3) (tC (.int 0))) (.im (iD r) :: .im (powD P m) :: .im (iD n) :: .ow ((List.range (2 ^ r)).map fun s => oD (pup P (i + 1) f s)) :: e :: es) (oD (pup P (i + 1) f 0)) := fun e es => evd_ix (ov 3) (c_nat 0) (at_rng (Nat.two_pow_pos r))
      cases q : pup P (i + 1) f 0 with
      | none =>
        rw [q] at x0
        refine q_seq (s_ifF (t_low0 (x0 _ _)) (s_next (s_next ?_)))
        rw [pnew_none]
        walk_at "wk"
      | some w =>
        rw [q] at x0
        refine q_seq (s_if (t_told (i := 4) (w := w) (st := st) (x0 _ _) rfl ((evt_test (evt_eqO (ov 4) (EvF.toD (evf_lst eva_nil (by decide))) (shaped_stp st) rfl)).eq (emp_stp2 st))) (fun z => q_seq (s_app (ds := st.map stp1) rfl (evd_tup (a2 (i_add (dv 5) evd_int) (x0 _ _)) (Nat.le_of_ble_eq_true rfl)) (by rw [List.length_map]; omega) (s_next (s_next ?_)))) (fun z => s_next (s_next ?_)))
        · rw [pnew_some, if_pos z]
          walk_at "wk"
          rw [List.map_append]
          rfl
        · rw [pnew_some, if_neg (by rw [z]; exact Bool.false_ne_true)]
          walk_at "wk"
  case d => exact q_seq (s_retO rfl)
theorem sat_law_powers (K : PySem.W.Frag) : ∀ ds d, S_law_powers ds d → Sat K (t_law_powers K) (entry N_law_powers ds) (fun _ => d = .none) d := by
  rintro ds d ⟨r, g, n, h, hn, rfl, rfl⟩
  have h8 := pow8 h.r8
  show Sat K (t_law_powers K) [.im (iD g), .im (iD r), .im (iD n), .no, .no, .no] _ _
  unfold t_law_powers
  refine q_seq (s_asgF (evf_lst (a1 (c_nat 1)) (by decide)) ?_)
  refine q_seq (s_for1 (n := n) (a1 (dv 2)) (by omega) (fun i => [.im (iD g), .im (iD r), .im (iD n), .ow ((List.range (i + 1)).map fun k => iD (pw r g k)), .no, .no]) ?w (fun i hi => ?b) ?d)
  case w =>
    walk_at "wk"
    rfl
  case b =>
    have hp := pw_lt h i
    have key : pw r g (i + 1) = red r g (2 * pw r g i) := rfl
    refine q_seq (s_asg (n_mul (a := 2) (c_nat 2) (evd_ix (d := iD (pw r g i)) (ov 3) (i_neg evd_int) (at_last (k := i) len_rng (by rw [List.getElem?_map, List.getElem?_range (by omega)]; rfl))) (by decide)) ?_)
    refine q_seq (s_if (t_red (dv 5) (dv 1)) (fun z => q_seq (s_asg (n_xor (dv 5) (dv 0)) (s_next (q_seq (s_app rfl (dv 5) (by rw [len_rng]; omega) (s_next ?_)))))) fun z => s_next (q_seq (s_app rfl (dv 5) (by rw [len_rng]; omega) (s_next ?_))))
    · walk_at "wk"
      rw [rng_succ (n := i + 1), key]
      unfold red
      rw [if_pos (of_decide_eq_true z)]
    · walk_at "wk"
      rw [rng_succ (n := i + 1), key]
      unfold red
      rw [if_neg (of_decide_eq_false z)]
  case d => exact q_seq (s_retO rfl)
theorem sat_law_table (K : PySem.W.Frag) : ∀ ds d, S_law_table ds d → Sat K (t_law_table K) (entry N_law_table ds) (fun _ => d = .none) d := by
  rintro ds d ⟨r, P, m, n, c0, c1, h8, hn, hm, hP, rfl, rfl⟩
  have h8' := pow8 h8
  have hp0 := Nat.two_pow_pos r
  show Sat K (t_law_table K) [.im (iD r), .im (powD P m), .im (priD c0 c1 n), .no, .no, .no, .no, .no, .no, .no, .no] _ _
  unfold t_law_table
  have st : ∀ G : List Ent, G[0]? = some (.im (iD r)) → EvD K (tOp xShl (tC (.int 1)) (tVar 0)) G (iD (2 ^ r)) := fun G hG => (n_shl (c_nat 1) (evd_var hG) (by decide) (by omega)).eq (congrArg iD (Nat.one_mul _))
  refine q_seq (s_asgF (evf_cat (ds := [.int 0]) (evf_lst (a1 evd_int) (by decide)) (evf_rep (ds := [.none]) (k := ((2 ^ r : Nat) : Int) - 1) (evf_lst (a1 evd_non) (by decide)) (i_sub (st _ rfl) evd_int) (by omega) (by omega) ?l1) ?l2) ?_)
  case l1 =>
    show 1 * _ ≤ _
    omega
  case l2 =>
    rw [rep_rng, len_rng]
    show 1 + _ ≤ _
    omega
  refine s_freeze (i := 3) rfl ?_
  rw [fin_lay]
  refine q_seq (s_asgF (ds := [layD r fin0]) (evf_lst (a1 (dv 3)) (Nat.le_of_ble_eq_true rfl)) ?_)
  refine q_seq (s_for3 (n := n) (a_down (n_lenR (lv 2))) (by omega) (fun i => [.im (iD r), .im (powD P m), .im (priD c0 c1 n), .im (layD r (bk c0 c1 P n i)), .ow ((List.range (i + 1)).map fun j => layD r (bk c0 c1 P n j)), .no, .no, .no, .no, .no, .no]) ?w (fun i hi => ?b) ?d)
  case w =>
    walk_at "wk"
    all_goals rfl
  case b =>
    have hk : n - 1 - i < n := by omega
    have ek : n - 1 - i = n - (i + 1) := by omega
    have hPk := hP (n - 1 - i)
    generalize hkk : n - 1 - i = k at *
    refine q_seq (s_asgF (evf_lst eva_nil (by decide)) ?_)
    refine q_seq (s_for1 (n := 2 ^ r) (a1 (st _ rfl)) (by omega) (fun j => [.im (iD r), .im (powD P m), .im (priD c0 c1 n), .im (layD r (bk c0 c1 P n i)), .ow ((List.range (i + 1)).map fun j => layD r (bk c0 c1 P n j)), .im (iD k), .ow ((List.range j).map fun s => oD (bk c0 c1 P n (i + 1) s)), .no, .no, .no, .no]) ?w2 (fun s hs => ?b2) ?d2)
    case w2 =>
      walk_at "wk"
      rfl
    case b2 =>
      have eb : bk c0 c1 P n (i + 1) s = cmb (c0 k) (c1 k) (bk c0 c1 P n i) (P k) s := by
        show cmb (c0 (n - (i + 1))) (c1 (n - (i + 1))) (bk c0 c1 P n i) (P (n - (i + 1))) s = _
        rw [← ek]
      refine q_seq (s_asg evd_non ?_)
      -- the two bits
      have step : ∀ (b : Nat) (B : Option Int) (ri : PyData), b < 2 → Sat K (tSeq (tAsg (tOp (rIxL K) (tVar 3) (tOp xXor (tVar 7) (tOp xMul (tOp (rIxL K) (tVar 1) (tVar 5)) (tVar 9)))) (gName 10))
  (tSeq (tIfS (tAnd (tTest (tOp rIsnt (tVar 10) (tC .non))) (tOr (tTest (tOp rIs (tVar 8) (tC .non))) (tTest (tOp xLt (tOp xAdd (tVar 10) (tOp (rIxT K) (tOp (rIxL K) (tVar 2) (tVar 5)) (tVar 9))) (tVar 8))))) (tSeq (tAsg (tOp xAdd (tVar 10) (tOp (rIxT K) (tOp (rIxL K) (tVar 2) (tVar 5)) (tVar 9))) (gName 8))
  tNext) tNext)
  tNext)) [.im (iD r), .im (powD P m), .im (priD c0 c1 n), .im (layD r (bk c0 c1 P n i)), .ow ((List.range (i + 1)).map fun j => layD r (bk c0 c1 P n j)), .im (iD k), .ow ((List.range s).map fun s => oD (bk c0 c1 P n (i + 1) s)), .im (iD s), .im (oD B), .im (iD b), .no]
        (fun G => Wk G [.im (iD r), .im (powD P m), .im (priD c0 c1 n), .im (layD r (bk c0 c1 P n i)), .ow ((List.range (i + 1)).map fun j => layD r (bk c0 c1 P n j)), .im (iD k), .ow ((List.range s).map fun s => oD (bk c0 c1 P n (i + 1) s)), .im (iD s), .im (oD (omin B (oadd (bk c0 c1 P n i (s ^^^ (P k * b))) (if b = 0 then c0 k else c1 k)))), .no, .no]) ri := by
        intro b B ri hb
        refine q_seq (s_asg (x_lay (dv 3) (n_xor (dv 7) (n_mul (x_pow rfl (dv 5) (by omega)) (dv 9) (by omega))) (xor_lt hs (mul_bit hPk hb))) ?_)
        generalize bk c0 c1 P n i (s ^^^ (P k * b)) = o
        have xc : ∀ e1 e2 e3 : Ent, EvD K (tOp (rIxT K) (tOp (rIxL K) (tVar 2) (tVar 5)) (tVar 9)) [.im (iD r), .im (powD P m), .im (priD c0 c1 n), .im (layD r (bk c0 c1 P n i)), .ow ((List.range (i + 1)).map fun j => layD r (bk c0 c1 P n j)), .im (iD k), .ow ((List.range s).map fun s => oD (bk c0 c1 P n (i + 1) s)), e1, e2, .im (iD b), e3] (.int (if b = 0 then c0 k else c1 k)) := fun e1 e2 e3 => x_2 (x := c0 k) (y := c1 k) (x_pri (dv 2) (dv 5) hk) (dv 9) hb
        generalize (if b = 0 then c0 k else c1 k) = c at *
        cases o with
        | none =>
          refine q_seq (s_ifF (t_low0 (dv 10)) (s_next (s_next ?_)))
          walk_at "wk"
          cases B <;> rfl
        | some x =>
          cases B with
          | none =>
            refine q_seq (s_ifT (evt_andT (t_isntS (x := x) (dv 10)) (evt_orT (t_isN (dv 8)))) (q_seq (s_asg (i_add (i := x) (dv 10) (xc _ _ _)) (s_next (s_next ?_)))))
            walk_at "wk"
            rfl
          | some y =>
            refine q_seq (s_if (evt_andT (t_isntS (x := x) (dv 10)) (evt_orF (t_isS (x := y) (dv 8)) (i_lt (j := y) (i_add (i := x) (dv 10) (xc _ _ _)) (dv 8)))) (fun z => q_seq (s_asg (i_add (i := x) (dv 10) (xc _ _ _)) (s_next (s_next ?_)))) (fun z => s_next (s_next ?_)))
            · walk_at "wk"
              show _ = Ent.im (oD (some (if x + c < y then x + c else y)))
              rw [if_pos (of_decide_eq_true z)]
              rfl
            · walk_at "wk"
              show _ = Ent.im (oD (some (if x + c < y then x + c else y)))
              rw [if_neg (of_decide_eq_false z)]
      refine q_seq (s_for1 (n := 2) (a1 (c_nat 2)) (by decide) (fun b => [.im (iD r), .im (powD P m), .im (priD c0 c1 n), .im (layD r (bk c0 c1 P n i)), .ow ((List.range (i + 1)).map fun j => layD r (bk c0 c1 P n j)), .im (iD k), .ow ((List.range s).map fun s => oD (bk c0 c1 P n (i + 1) s)), .im (iD s),
        .im (oD (match b with | 0 => none | 1 => oadd (bk c0 c1 P n i s) (c0 k) | _ => bk c0 c1 P n (i + 1) s)), .no, .no]) ?w3 (fun b hb => ?b3) ?d3)
      case w3 =>
        walk_at "wk"
        rfl
      case b3 =>
        rcases b with _ | _ | b
        · refine s_conseq (step 0 none _ (by decide)) fun G w => ?_
          rw [Nat.mul_zero, Nat.xor_zero] at w
          exact w
        · refine s_conseq (step 1 (oadd (bk c0 c1 P n i s) (c0 k)) _ (by decide)) fun G w => ?_
          rw [Nat.mul_one] at w
          rw [eb]
          exact w
        · omega
      case d3 =>
        refine q_seq (s_app (ds := (List.range s).map fun s => oD (bk c0 c1 P n (i + 1) s)) (d := oD (bk c0 c1 P n (i + 1) s)) rfl (dv 8) (by rw [len_rng]; omega) (s_next ?_))
        walk_at "wk"
        rw [rng_succ]
    case d2 =>
      refine s_freeze (i := 6) rfl (q_seq (s_asg (d := layD r (bk c0 c1 P n (i + 1))) (dv 6) (q_seq (s_app (ds := (List.range (i + 1)).map fun j => layD r (bk c0 c1 P n j)) (d := layD r (bk c0 c1 P n (i + 1))) rfl (dv 6) (by rw [len_rng]; omega) (s_next ?_)))))
      walk_at "wk"
      rw [rng_succ (n := i + 1)]
  case d =>
    refine q_seq (s_ret (((evf_rev (ds := (List.range (n + 1)).map fun j => layD r (bk c0 c1 P n j)) (ov 4)).toD).eq ?_))
    rw [rng_rev]
    rfl
theorem sat_law_goes (K : PySem.W.Frag) : ∀ ds d, S_law_goes ds d → Sat K (t_law_goes K) (entry N_law_goes ds) (fun _ => d = .none) d := by
  rintro ds d ⟨r, P, m, n, c0, c1, T, pre, s, hn, hm, h8, hP, hpre, hs, rfl, rfl⟩
  have h8' := pow8 h8
  show Sat K (t_law_goes K) [.im (papD r T n), .im (powD P m), .im (priD c0 c1 n), .im (natsD pre), .im (iD s), .no, .no, .no] _ _
  unfold t_law_goes
  refine q_seq (s_asgF (evf_list (lv 3)) ?_)
  refine q_seq (s_for2 (lo := pre.length) (n := n) (a2 (n_len (ov 3)) (n_lenR (lv 2))) (by omega) (fun i => [.im (papD r T n), .im (powD P m), .im (priD c0 c1 n), .ow ((pre ++ wbits (tbit c0 T) P pre.length s i).map iD), .im (iD (wst (tbit c0 T) P pre.length s i)), .no, .no, .no]) ?w (fun i hi => ?b) ?d)
  case w =>
    walk_at "wk"
    · show Ent.ow _ = Ent.ow (List.map iD (pre ++ []))
      rw [List.append_nil]
    · rfl
  case b =>
    have hb := tbit_lt c0 T (pre.length + i) (wst (tbit c0 T) P pre.length s i)
    have hw := wst_lt (bit := tbit c0 T) (k := pre.length) hP (tbit_lt c0 T) hs i
    have hPk := hP (pre.length + i)
    rw [wbits_succ]
    have ew : wst (tbit c0 T) P pre.length s (i + 1) = wst (tbit c0 T) P pre.length s i ^^^ (P (pre.length + i) * tbit c0 T (pre.length + i) (wst (tbit c0 T) P pre.length s i)) := rfl
    rw [ew]
    have hlen : ((pre ++ wbits (tbit c0 T) P pre.length s i).map iD).length = pre.length + i := by
      rw [List.length_map, List.length_append, wbits_len]
    generalize wbits (tbit c0 T) P pre.length s i = wb at *
    generalize wst (tbit c0 T) P pre.length s i = u at *
    generalize pre.length + i = k at *
    refine q_seq (s_asg (x_lay (x_pap (dv 0) (n_add (dv 5) (c_nat 1)) (by omega)) (dv 4) hw) ?_)
    refine q_seq (s_asg (d := iD (tbit c0 T k u)) ?e ?_)
    case e =>
      cases q : T (k + 1) u with
      | none =>
        rw [tbit_none q]
        exact evd_intB (evd_or (a := true) (b := true) (e_is (d := .none) (dv 6)) (fun z => nomatch z))
      | some x =>
        rw [tbit_some q]
        refine (evd_intB (evd_or (a := false) (b := !decide (some (x + c0 k) = T k u)) (e_is (d := .int x) (dv 6)) (fun _ => o_ne (a := some (x + c0 k)) (b := T k u) (i_add (i := x) (dv 6) (x_c0 rfl (dv 5) hi)) (x_lay (x_pap (dv 0) (dv 5) (by omega)) (dv 4) hw)))).eq ?_
        by_cases z : some (x + c0 k) = T k u
        · rw [decide_eq_true z, if_pos z]
          rfl
        · rw [decide_eq_false z, if_neg z]
          rfl
    refine q_seq (s_app (ds := (pre ++ wb).map iD) rfl (dv 7) (by rw [hlen]; omega) ?_)
    refine q_seq (s_asg (n_xor (dv 4) (n_mul (x_pow rfl (dv 5) (by omega)) (dv 7) (by omega))) (s_next ?_))
    walk_at "wk"
    rw [← List.append_assoc, List.map_append (l₂ := [tbit c0 T k u])]
    rfl
  case d => exact q_seq (s_retO rfl)

/-! ## sat6 -/
/-! ### the law's least weight -/
def lbest (f : Nat → Option Int) : Nat → Option (Int × Nat)
  | 0 => none
  | i + 1 => match f i with
    | none => lbest f i
    | some w => match lbest f i with
      | none => some (w, i)
      | some p => if w ≤ p.1 then some (w, i) else some p
theorem lbest_none {f : Nat → Option Int} {i : Nat} (h : f i = none) : lbest f (i + 1) = lbest f i := by
  show (match f i with | none => lbest f i | some w => match lbest f i with | none => some (w, i) | some p => if w ≤ p.1 then some (w, i) else some p) = lbest f i
  rw [h]
theorem lbest_some {f : Nat → Option Int} {i : Nat} {w : Int} (h : f i = some w) : lbest f (i + 1) = match lbest f i with | none => some (w, i) | some p => if w ≤ p.1 then some (w, i) else some p := by
  show (match f i with | none => lbest f i | some w => match lbest f i with | none => some (w, i) | some p => if w ≤ p.1 then some (w, i) else some p) = _
  rw [h]
/-- as far as it has looked -/
def LB (f : Nat → Option Int) (i : Nat) : Option (Int × Nat) → Prop
  | none => ∀ k, k < i → f k = none
  | some p => Lst i f p.1 p.2
theorem lbest_ok (f : Nat → Option Int) : ∀ i, LB f i (lbest f i)
  | 0 => fun k hk => by omega
  | i + 1 => by
    have ih := lbest_ok f i
    cases h : f i with
    | none =>
      rw [lbest_none h]
      cases q : lbest f i with
      | none =>
        rw [q] at ih
        intro k hk
        by_cases e : k = i
        · rw [e]; exact h
        · exact ih k (by omega)
      | some p =>
        rw [q] at ih
        have ih : Lst i f p.1 p.2 := ih
        refine ⟨by have := ih.lt; omega, ih.at_, fun k x hk hx => ?_, fun k hk hx => ?_⟩
        · by_cases e : k = i
          · subst e
            rw [h] at hx
            cases hx
          · exact ih.low k x (by omega) hx
        · by_cases e : k = i
          · subst e
            rw [h] at hx
            cases hx
          · exact ih.last k (by omega) hx
    | some w =>
      rw [lbest_some h]
      cases q : lbest f i with
      | none =>
        rw [q] at ih
        have ih : ∀ k, k < i → f k = none := ih
        refine ⟨Nat.lt_succ_self i, h, fun k x hk hx => ?_, fun k hk hx => Nat.lt_succ_iff.mp hk⟩
        by_cases e : k = i
        · subst e
          rw [h] at hx
          have := Option.some.inj hx
          show w ≤ x
          omega
        · rw [ih k (by omega)] at hx
          cases hx
      | some p =>
        rw [q] at ih
        have ih : Lst i f p.1 p.2 := ih
        show LB f (i + 1) (if w ≤ p.1 then some (w, i) else some p)
        by_cases z : w ≤ p.1
        · rw [if_pos z]
          refine ⟨Nat.lt_succ_self i, h, fun k x hk hx => ?_, fun k hk hx => Nat.lt_succ_iff.mp hk⟩
          by_cases e : k = i
          · subst e
            rw [h] at hx
            have := Option.some.inj hx
            show w ≤ x
            omega
          · have := ih.low k x (by omega) hx
            show w ≤ x
            omega
        · rw [if_neg z]
          refine ⟨by have := ih.lt; omega, ih.at_, fun k x hk hx => ?_, fun k hk hx => ?_⟩
          · by_cases e : k = i
            · subst e
              rw [h] at hx
              have := Option.some.inj hx
              omega
            · exact ih.low k x (by omega) hx
          · by_cases e : k = i
            · subst e
              rw [h] at hx
              have := Option.some.inj hx
              omega
            · exact ih.last k (by omega) hx
theorem lbest_is {f : Nat → Option Int} {n st : Nat} {W : Int} (L : Lst n f W st) : lbest f n = some (W, st) := by
  have h := lbest_ok f n
  cases q : lbest f n with
  | none =>
    rw [q] at h
    have h : ∀ k, k < n → f k = none := h
    have := h st L.lt
    rw [L.at_] at this
    cases this
  | some p =>
    rw [q] at h
    have h : Lst n f p.1 p.2 := h
    have e1 : p.1 = W := by
      have h1 := h.low st W L.lt L.at_
      have h2 := L.low p.2 p.1 h.lt h.at_
      omega
    have e2 : p.2 = st := by
      have h1 := h.last st L.lt (by rw [e1]; exact L.at_)
      have h2 := L.last p.2 h.lt (by rw [← e1]; exact h.at_)
      omega
    rw [← e1, ← e2]
def bD : Option (Int × Nat) → PyData
  | none => .none
  | some p => .tuple [.int p.1, iD p.2]
theorem sat_law_least (K : PySem.W.Frag) : ∀ ds d, S_law_least ds d → Sat K (t_law_least K) (entry N_law_least ds) (fun _ => d = .none) d := by
  rintro ds d ⟨r, P, m, n, W, st, h8, hn, hm, hP, L, rfl, rfl⟩
  have h8' := pow8 h8
  have hlt := L.lt
  generalize hT : tab c00 c11 P n = T at *
  show Sat K (t_law_least K) [.im (iD r), .im (powD P m), .im (iD n), .no, .no, .no, .no, .no, .no] _ _
  unfold t_law_least
  refine q_seq (s_asg (e_unit (dv 2) hn) ?_)
  refine q_seq (s_asg (d := papD r T n) (evd_call (a3 (dv 0) (dv 1) (dv 3)) ⟨r, P, m, n, c00, c11, h8, hn, hm, hP, rfl, by rw [hT]⟩) ?_)
  refine q_seq (s_asg evd_non ?_)
  refine q_seq (s_for1 (n := n) (a1 (dv 2)) (by omega) (fun i => [.im (iD r), .im (powD P m), .im (iD n), .im (priD c00 c11 n), .im (papD r T n), .im (bD (lbest (wgt P T) i)), .no, .no, .no]) ?w (fun i hi => ?b) ?d)
  case w =>
    walk_at "wk"
    rfl
  case b =>
    refine q_seq (s_asg (x_lay (x_pap (dv 4) (n_add (dv 6) (c_nat 1)) (by omega)) (x_pow rfl (dv 6) (by omega)) (hP i)) ?_)
    cases q : T (i + 1) (P i) with
    | none =>
      have e : wgt P T i = none := by
        unfold wgt
        rw [q]
        rfl
      refine q_seq (s_ifF (t_low0 (dv 7)) (s_next (s_next ?_)))
      rw [lbest_none e]
      walk_at "wk"
    | some x =>
      have e : wgt P T i = some (x + 1) := by
        unfold wgt
        rw [q]
        rfl
      rw [lbest_some e]
      cases lbest (wgt P T) i with
      | none =>
        refine q_seq (s_ifT (evt_andT (t_isntS (x := x) (dv 7)) (evt_orT (t_isN (dv 5)))) (q_seq (s_asg (d := bD (some (x + 1, i))) (evd_tup (a2 (i_add (i := x) (dv 7) evd_int) (dv 6)) (Nat.le_of_ble_eq_true rfl)) (s_next (s_next ?_)))))
        walk_at "wk"
      | some p =>
        have isn : isN (bD (some p)) = false := rfl
        refine q_seq (s_if (evt_andT (t_isntS (x := x) (dv 7)) (evt_orF ((t_is (dv 5)).eq isn) (i_le (i := x + 1) (j := p.1) (i_add (i := x) (dv 7) evd_int) (x_2 (x := p.1) (y := (p.2 : Int)) (dv 5) (c_nat 0) (by decide))))) (fun z => q_seq (s_asg (d := bD (some (x + 1, i))) (evd_tup (a2 (i_add (i := x) (dv 7) evd_int) (dv 6)) (Nat.le_of_ble_eq_true rfl)) (s_next (s_next ?_)))) (fun z => s_next (s_next ?_)))
        · walk_at "wk"
          show _ = Ent.im (bD (if x + 1 ≤ p.1 then some (x + 1, i) else some p))
          rw [if_pos (of_decide_eq_true z)]
        · walk_at "wk"
          show _ = Ent.im (bD (if x + 1 ≤ p.1 then some (x + 1, i) else some p))
          rw [if_neg (of_decide_eq_false z)]
  case d =>
    rw [lbest_is L]
    refine q_seq (s_asg (d := iD st) (x_2 (x := W) (y := (st : Int)) (dv 5) (c_nat 1) (by decide)) ?_)
    refine q_seq (s_ret (evd_tup (a2 (x_2 (x := W) (y := (st : Int)) (dv 5) (c_nat 0) (by decide)) (evd_call (a5 (dv 4) (dv 1) (dv 3) (e_pat0 (dv 8) (by omega)).toD (x_pow rfl (dv 8) (by omega))) ⟨r, P, m, n, c00, c11, T, List.replicate st 0 ++ [1], P st, hn, hm, h8, hP, ?_, hP st, rfl, ?_⟩)) (Nat.le_of_ble_eq_true rfl)))
    · rw [List.length_append, List.length_replicate]
      show st + 1 ≤ n
      omega
    · rw [List.length_append, List.length_replicate]
      rfl
/-! ### the law's margin -/
def obest (f : Nat → Option Int) : Nat → Option Int
  | 0 => none
  | i + 1 => omin (obest f i) (f i)
def OB (f : Nat → Option Int) (i : Nat) : Option Int → Prop
  | none => ∀ k, k < i → f k = none
  | some M => Low i f M
theorem obest_ok (f : Nat → Option Int) : ∀ i, OB f i (obest f i)
  | 0 => fun k hk => by omega
  | i + 1 => by
    have ih := obest_ok f i
    show OB f (i + 1) (omin (obest f i) (f i))
    cases q : obest f i with
    | none =>
      rw [q] at ih
      have ih : ∀ k, k < i → f k = none := ih
      cases h : f i with
      | none =>
        intro k hk
        by_cases e : k = i
        · rw [e]; exact h
        · exact ih k (by omega)
      | some w =>
        refine ⟨⟨i, Nat.lt_succ_self i, h⟩, fun k x hk hx => ?_⟩
        by_cases e : k = i
        · subst e
          rw [h] at hx
          have := Option.some.inj hx
          omega
        · rw [ih k (by omega)] at hx
          cases hx
    | some a =>
      rw [q] at ih
      have ih : Low i f a := ih
      obtain ⟨k0, hk0, e0⟩ := ih.ex
      cases h : f i with
      | none =>
        refine ⟨⟨k0, by omega, e0⟩, fun k x hk hx => ?_⟩
        by_cases e : k = i
        · subst e
          rw [h] at hx
          cases hx
        · exact ih.low k x (by omega) hx
      | some b =>
        show Low (i + 1) f (if b < a then b else a)
        by_cases z : b < a
        · rw [if_pos z]
          refine ⟨⟨i, Nat.lt_succ_self i, h⟩, fun k x hk hx => ?_⟩
          by_cases e : k = i
          · subst e
            rw [h] at hx
            have := Option.some.inj hx
            omega
          · have := ih.low k x (by omega) hx
            omega
        · rw [if_neg z]
          refine ⟨⟨k0, by omega, e0⟩, fun k x hk hx => ?_⟩
          by_cases e : k = i
          · subst e
            rw [h] at hx
            have := Option.some.inj hx
            omega
          · exact ih.low k x (by omega) hx
theorem obest_is {f : Nat → Option Int} {n : Nat} {M : Int} (L : Low n f M) : obest f n = some M := by
  have h := obest_ok f n
  obtain ⟨k0, hk0, e0⟩ := L.ex
  cases q : obest f n with
  | none =>
    rw [q] at h
    have h : ∀ k, k < n → f k = none := h
    rw [h k0 hk0] at e0
    cases e0
  | some a =>
    rw [q] at h
    have h : Low n f a := h
    obtain ⟨k1, hk1, e1⟩ := h.ex
    have h1 := h.low k0 M hk0 e0
    have h2 := L.low k1 a hk1 e1
    exact congrArg some (by omega)
theorem sat_law_margin (K : PySem.W.Frag) : ∀ ds d, S_law_margin ds d → Sat K (t_law_margin K) (entry N_law_margin ds) (fun _ => d = .none) d := by
  rintro ds d ⟨r, P, m, n, c0, c1, T, row, M, h8, hn, hm, hP, hr, L, rfl, rfl⟩
  have h8' := pow8 h8
  show Sat K (t_law_margin K) [.im (papD r T n), .im (powD P m), .im (priD c0 c1 n), .im (rowD row n), .no, .no, .no, .no, .no, .no] _ _
  unfold t_law_margin
  refine q_seq (s_asg evd_non ?_)
  refine q_seq (s_asg (c_nat 0) ?_)
  refine q_seq (s_asg evd_int ?_)
  refine q_seq (s_for1 (n := n) (a1 (n_lenR (lv 3))) (by omega) (fun i => [.im (papD r T n), .im (powD P m), .im (priD c0 c1 n), .im (rowD row n), .im (oD (obest (oth c0 c1 P T row) i)), .im (iD (rowst P row i)), .im (.int (tot c0 c1 row i)), .no, .no, .no]) ?w (fun k hk => ?b) ?d)
  case w =>
    walk_at "wk"
    all_goals rfl
  case b =>
    have hb : row k < 2 := hr k
    have hs := rowst_lt hP hr k
    have hp := hP k
    refine q_seq (s_asg (n_flip (x_row rfl (dv 7) hk) hb) ?_)
    refine q_seq (s_asg (x_lay (x_pap (dv 0) (n_add (dv 7) (c_nat 1)) (by omega)) (n_xor (dv 5) (n_mul (x_pow rfl (dv 7) (by omega)) (dv 8) (by omega))) (xor_lt hs (mul_bit hp (by omega)))) ?_)
    -- the end of the turn
    have eo : oth c0 c1 P T row k = (T (k + 1) (rowst P row k ^^^ (P k * (1 - row k)))).map fun x => tot c0 c1 row k + cst c0 c1 k (1 - row k) + x := rfl
    have fin : ∀ (e1 : Ent) (ri : PyData), Sat K (tSeq (tAsg (tOp xAdd (tVar 6) (tOp (rIxT K) (tOp (rIxL K) (tVar 2) (tVar 7)) (tOp (rIxL K) (tVar 3) (tVar 7)))) (gName 6))
  (tSeq (tAsg (tOp xXor (tVar 5) (tOp xMul (tOp (rIxL K) (tVar 1) (tVar 7)) (tOp (rIxL K) (tVar 3) (tVar 7)))) (gName 5))
  tNext)) [.im (papD r T n), .im (powD P m), .im (priD c0 c1 n), .im (rowD row n), .im (oD (obest (oth c0 c1 P T row) (k + 1))), .im (iD (rowst P row k)), .im (.int (tot c0 c1 row k)), .im (iD k), .im (iD (1 - row k)), e1]
        (fun G => Wk G [.im (papD r T n), .im (powD P m), .im (priD c0 c1 n), .im (rowD row n), .im (oD (obest (oth c0 c1 P T row) (k + 1))), .im (iD (rowst P row (k + 1))), .im (.int (tot c0 c1 row (k + 1))), .no, .no, .no]) ri := by
      intro e1 ri
      refine q_seq (s_asg (i_add (dv 6) (x_2 (x := c0 k) (y := c1 k) (x_pri (dv 2) (dv 7) hk) (x_row rfl (dv 7) hk) hb)) ?_)
      refine q_seq (s_asg (n_xor (dv 5) (n_mul (x_pow rfl (dv 7) (by omega)) (x_row rfl (dv 7) hk) (by omega))) (s_next ?_))
      walk_at "wk"
      all_goals rfl
    have ob : obest (oth c0 c1 P T row) (k + 1) = omin (obest (oth c0 c1 P T row) k) (oth c0 c1 P T row k) := rfl
    generalize obest (oth c0 c1 P T row) (k + 1) = B' at *
    generalize obest (oth c0 c1 P T row) k = B at *
    rw [eo] at ob
    generalize T (k + 1) (rowst P row k ^^^ (P k * (1 - row k))) = o at *
    have xc : ∀ e1 e2 : Ent, EvD K (tOp xAdd (tVar 6) (tOp (rIxT K) (tOp (rIxL K) (tVar 2) (tVar 7)) (tVar 8))) [.im (papD r T n), .im (powD P m), .im (priD c0 c1 n), .im (rowD row n), e1, .im (iD (rowst P row k)), .im (.int (tot c0 c1 row k)), .im (iD k), .im (iD (1 - row k)), e2] (.int (tot c0 c1 row k + cst c0 c1 k (1 - row k))) :=
      fun e1 e2 => i_add (dv 6) (x_2 (x := c0 k) (y := c1 k) (x_pri (dv 2) (dv 7) hk) (dv 8) (by omega))
    generalize tot c0 c1 row k + cst c0 c1 k (1 - row k) = t at *
    cases o with
    | none =>
      have ob : B' = B := by
        rw [ob]
        cases B <;> rfl
      rw [ob] at fin
      rw [ob]
      exact q_seq (s_ifF (t_low0 (dv 9)) (s_next (fin _ _)))
    | some x =>
      have ob : B' = omin B (some (t + x)) := ob
      cases B with
      | none =>
        have ob : B' = some (t + x) := ob
        rw [ob] at fin
        rw [ob]
        exact q_seq (s_ifT (evt_andT (t_isntS (x := x) (dv 9)) (evt_orT (t_isN (dv 4)))) (q_seq (s_asg (i_add (j := x) (xc _ _) (dv 9)) (s_next (fin _ _)))))
      | some y =>
        have ob : B' = some (if t + x < y then t + x else y) := ob
        rw [ob] at fin
        rw [ob]
        refine q_seq (s_if (evt_andT (t_isntS (x := x) (dv 9)) (evt_orF (t_isS (x := y) (dv 4)) (i_lt (j := y) (i_add (j := x) (xc _ _) (dv 9)) (dv 4)))) (fun z => q_seq (s_asg (i_add (j := x) (xc _ _) (dv 9)) (s_next ?_))) (fun z => s_next ?_))
        · rw [if_pos (of_decide_eq_true z)] at fin ⊢
          exact fin _ _
        · rw [if_neg (of_decide_eq_false z)] at fin ⊢
          exact fin _ _
  case d =>
    rw [obest_is L]
    exact q_seq (s_ret (i_sub (dv 4) (dv 6)))

/-! ## sat7 -/
/-! ### the draws -/
theorem fm_nn (a : Int) {m : Int} (h : 0 < m) : 0 ≤ a.fmod m := Int.fmod_nonneg_of_pos a h
theorem fm_lt (a : Int) {m : Int} (h : 0 < m) : a.fmod m < m := Int.fmod_lt_of_pos a h
theorem i_pow18 {K : PySem.W.Frag} {G : List Ent} : EvD K (tOp xPow (tC (.int 10)) (tC (.int 18))) G (.int (10 ^ 18)) := (evd_op evd_int evd_int (rd_1 (i := 10) (j := 18) ⟨by decide, by decide, by decide⟩ fun _ => .int _)).eq rfl
theorem dig_len (a : Int) : ∀ t, (dig a t).1.length ≤ t
  | 0 => Nat.le_refl 0
  | t + 1 => by
    have ih := dig_len a t
    show (if 0 < (dig a t).2 then ((dig a t).1 ++ [(dig a t).2.fmod 65536], (dig a t).2.fdiv 65536) else dig a t).1.length ≤ t + 1
    split
    · rw [List.length_append]
      show _ + 1 ≤ _
      omega
    · omega
theorem dig_in (a : Int) : ∀ t, ∀ x ∈ (dig a t).1, 0 ≤ x ∧ x < 65536
  | 0, x, h => nomatch h
  | t + 1, x, h => by
    have ih := dig_in a t
    have h : x ∈ (if 0 < (dig a t).2 then ((dig a t).1 ++ [(dig a t).2.fmod 65536], (dig a t).2.fdiv 65536) else dig a t).1 := h
    split at h
    · rcases List.mem_append.mp h with h | h
      · exact ih x h
      · rw [List.mem_singleton.mp h]
        exact ⟨fm_nn _ (by decide), fm_lt _ (by decide)⟩
    · exact ih x h
theorem draw1_len (k : Nat) (v : Int) : (draw1 k v).length ≤ 60 := by
  unfold draw1
  generalize (if v < 0 then -v else v) = a
  by_cases h : 10 ^ 18 ≤ a
  · rw [if_pos h]
    exact dig_len _ 60
  · rw [if_neg h]
    exact Nat.le_of_ble_eq_true rfl
theorem draw1_in (k : Nat) (v : Int) : ∀ x ∈ draw1 k v, 0 ≤ x ∧ x < 65536 := by
  intro x h
  unfold draw1 at h
  generalize (if v < 0 then -v else v) = a at h
  by_cases q : 10 ^ 18 ≤ a
  · rw [if_pos q] at h
    exact dig_in _ 60 x h
  · rw [if_neg q] at h
    rcases List.mem_cons.mp h with h | h
    · rw [h]
      exact ⟨fm_nn _ (by decide), fm_lt _ (by decide)⟩
    · rw [List.mem_singleton.mp h]
      have h1 := fm_nn ((mixed a k).fdiv 65536) (m := 32768) (by decide)
      have h2 := fm_lt ((mixed a k).fdiv 65536) (m := 32768) (by decide)
      exact ⟨h1, by omega⟩
theorem draws_len (ns : List Int) : ∀ k, (draws ns k).length ≤ 60 * k
  | 0 => Nat.le_refl 0
  | k + 1 => by
    have ih := draws_len ns k
    have h1 := draw1_len k (ns.getD k 0)
    show (draws ns k ++ draw1 k (ns.getD k 0)).length ≤ 60 * (k + 1)
    rw [List.length_append]
    omega
theorem draws_in (ns : List Int) : ∀ k, ∀ x ∈ draws ns k, 0 ≤ x ∧ x < 65536
  | 0, x, h => nomatch h
  | k + 1, x, h => by
    rcases List.mem_append.mp (show x ∈ draws ns k ++ draw1 k (ns.getD k 0) from h) with h | h
    · exact draws_in ns k x h
    · exact draw1_in k _ x h
theorem at_int {ns : List Int} {k : Nat} (h : k < ns.length) : atI (ns.map PyData.int) (k : Int) = some (.int (ns.getD k 0)) := by
  refine atI_nat ?_
  rw [List.getElem?_map, List.getElem?_eq_getElem h]
  show some (PyData.int ns[k]) = _
  rw [List.getD_eq_getElem?_getD, List.getElem?_eq_getElem h]
  rfl
theorem sat_law_draws (K : PySem.W.Frag) : ∀ ds d, S_law_draws ds d → Sat K (t_law_draws K) (entry N_law_draws ds) (fun _ => d = .none) d := by
  rintro ds d ⟨ns, hl, rfl, rfl⟩
  show Sat K (t_law_draws K) [.im (.list (ns.map .int)), .no, .no, .no, .no, .no] _ _
  unfold t_law_draws
  refine q_seq (s_asgF (evf_lst eva_nil (by decide)) ?_)
  refine q_seq (s_for1 (n := ns.length) (a1 ((evd_min2 (i := 63) (j := (ns.length : Int)) evd_int (n_len (lv 0))).eq (by split <;> exact congrArg PyData.int (by omega)))) (by omega) (fun k => [.im (.list (ns.map .int)), .ow ((draws ns k).map .int), .no, .no, .no, .no]) ?w (fun k hk => ?b) ?d)
  case w =>
    walk_at "wk"
    rfl
  case b =>
    have hlen := draws_len ns k
    have e1 : draws ns (k + 1) = draws ns k ++ draw1 k (ns.getD k 0) := rfl
    rw [e1]
    generalize draws ns k = D at *
    refine q_seq (s_asg (evd_abs (evd_ix (lv 0) (dv 2) (at_int hk))) ?_)
    unfold draw1
    generalize ns.getD k 0 = v
    generalize (if v < 0 then -v else v) = a
    refine q_seq (s_if (i_ge (dv 3) i_pow18) (fun z => ?_) (fun z => ?_))
    · have z := of_decide_eq_true z
      rw [if_pos z]
      refine q_seq (s_for1 (n := 60) (a1 (c_nat 60)) (by decide) (fun t => [.im (.list (ns.map .int)), .ow ((D ++ (dig a t).1).map .int), .im (iD k), .im (.int (dig a t).2), .no, .no]) ?w2 (fun t ht => ?b2) ?d2)
      case w2 =>
        walk_at "wk"
        · show Ent.ow _ = Ent.ow (List.map PyData.int (D ++ []))
          rw [List.append_nil]
        · rfl
      case b2 =>
        have hd := dig_len a t
        have e2 : dig a (t + 1) = if 0 < (dig a t).2 then ((dig a t).1 ++ [(dig a t).2.fmod 65536], (dig a t).2.fdiv 65536) else dig a t := rfl
        rw [e2]
        generalize dig a t = p at *
        refine q_seq (s_if (i_gt (dv 3) evd_int) (fun y => q_seq (s_app (ds := (D ++ p.1).map .int) rfl (i_mod (evd_intI (dv 3)) evd_int (by decide)) (by rw [List.length_map, List.length_append]; omega) (q_seq (s_asg (i_div (dv 3) evd_int ⟨by decide, by decide⟩) (s_next (s_next ?_)))))) (fun y => s_next (s_next ?_)))
        · rw [if_pos (of_decide_eq_true y)]
          walk_at "wk"
          rw [← List.append_assoc, List.map_append (l₂ := [p.2.fmod 65536])]
          rfl
        · rw [if_neg (of_decide_eq_false y)]
          walk_at "wk"
      case d2 =>
        refine s_next (s_next ?_)
        walk_at "wk"
    · have z := of_decide_eq_false z
      rw [if_neg z]
      refine q_seq (s_asg (i_mod (evd_intI (i_add (i_mul (dv 3) evd_int (.inr ⟨by decide, by decide⟩)) (i_mul (i_add (dv 2) evd_int) evd_int (.inr ⟨by decide, by decide⟩)))) evd_int (by decide)) ?_)
      refine q_seq (s_asg (d := .int (mixed a k)) (i_mod (evd_intI (i_add (i_add (i_mul (dv 5) evd_int (.inr ⟨by decide, by decide⟩)) (i_mul evd_int (dv 2) (.inl ⟨by decide, by decide⟩))) evd_int)) evd_int (by decide)) ?_)
      refine q_seq (s_app (ds := D.map .int) rfl (i_mod (evd_intI (dv 5)) evd_int (by decide)) (by rw [List.length_map]; omega) ?_)
      refine q_seq (s_app rfl (i_mod (evd_intI (i_div (dv 5) evd_int ⟨by decide, by decide⟩)) evd_int (by decide)) (by rw [List.length_append, List.length_map]; show _ + 1 < _; omega) (s_next (s_next ?_)))
      walk_at "wk"
      rw [List.map_append, List.append_assoc]
      rfl
  case d => exact q_seq (s_retO rfl)
/-! ### a number mixed -/
theorem mixf_lt (xs : List Int) (k : Nat) {m : Nat} (h : 0 < m) : mixf xs k m < m := by
  have hm : (0 : Int) < (m : Int) := by omega
  unfold mixf
  split
  · have h1 := fm_nn (mval xs k) hm
    have h2 := fm_lt (mval xs k) hm
    omega
  · have h1 := fm_nn ((mval xs k * 7919 + (k : Int) * 104729).fdiv 3) hm
    have h2 := fm_lt ((mval xs k * 7919 + (k : Int) * 104729).fdiv 3) hm
    omega
theorem mval_in {xs : List Int} (h : Drw xs) (k : Nat) : 0 ≤ mval xs k ∧ mval xs k < 65536 := by
  unfold mval
  split
  · rename_i hl
    have hk : k % xs.length < xs.length := Nat.mod_lt _ hl
    rw [List.getD_eq_getElem?_getD, List.getElem?_eq_getElem hk]
    exact h.1 _ (List.getElem_mem hk)
  · exact ⟨by decide, by decide⟩
theorem fmod_nat (a b : Nat) : (a : Int).fmod (b : Int) = ((a % b : Nat) : Int) := by
  rw [Int.fmod_eq_emod_of_nonneg _ (by omega), Int.natCast_emod]
theorem sat_law_mix (K : PySem.W.Frag) : ∀ ds d, S_law_mix ds d → Sat K (t_law_mix K) (entry N_law_mix ds) (fun _ => d = .none) d := by
  rintro ds d ⟨xs, k, m, hx, hk, hm, rfl, rfl⟩
  obtain ⟨v0, v1⟩ := mval_in hx k
  have hm' : (0 : Int) < (m : Int) := by omega
  show Sat K (t_law_mix K) [.im (.list (xs.map .int)), .im (iD k), .im (iD m), .no] _ _
  unfold t_law_mix
  refine q_seq (s_asg evd_int ?_)
  have fin : Sat K (tSeq (tIfS (tTest (tOp xLt (tVar 1) (tCB (rLen K) (tCons (tVar 0) tNil)))) (tSeq (tRet (tOp xMod (tCB rInt1 (tCons (tVar 3) tNil)) (tVar 2)))
  tNext) tNext)
  (tSeq (tRet (tOp xMod (tCB rInt1 (tCons (tOp xDiv (tCB rInt1 (tCons (tOp xAdd (tOp xMul (tVar 3) (tC (.int 7919))) (tOp xMul (tVar 1) (tC (.int 104729)))) tNil)) (tC (.int 3))) tNil)) (tVar 2)))
  tNext)) [.im (.list (xs.map .int)), .im (iD k), .im (iD m), .im (.int (mval xs k))] (fun _ => iD (mixf xs k m) = .none) (iD (mixf xs k m)) := by
    refine q_seq (s_if (n_lt (dv 1) (n_len (lv 0))) (fun z => q_seq (s_ret ((i_mod (evd_intI (dv 3)) (dv 2) (by omega)).eq ?_))) (fun z => s_next (q_seq (s_ret ((i_mod (evd_intI (i_div (evd_intI (i_add (i_mul (dv 3) evd_int (.inr ⟨by decide, by decide⟩)) (i_mul (dv 1) evd_int (.inr ⟨by decide, by decide⟩)))) evd_int ⟨by decide, by decide⟩)) (dv 2) (by omega)).eq ?_)))))
    · unfold mixf
      rw [if_pos (of_decide_eq_true z)]
      exact congrArg PyData.int (Int.toNat_of_nonneg (fm_nn _ hm')).symm
    · unfold mixf
      rw [if_neg (of_decide_eq_false z)]
      exact congrArg PyData.int (Int.toNat_of_nonneg (fm_nn _ hm')).symm
  by_cases hl : 0 < xs.length
  · refine q_seq (s_ifT ((i_gt (i := (xs.length : Int)) (n_len (lv 0)) evd_int).eq (decide_eq_true (by omega))) (q_seq (s_asg (d := .int (mval xs k)) ((evd_ix (i := ((k % xs.length : Nat) : Int)) (lv 0) ((i_mod (evd_intI (dv 1)) (n_len (lv 0)) (by omega)).eq (congrArg PyData.int (fmod_nat k xs.length))) (at_int (Nat.mod_lt _ hl))).eq ?_) (s_next fin))))
    unfold mval
    rw [if_pos hl]
  · refine q_seq (s_ifF ((i_gt (i := (xs.length : Int)) (n_len (lv 0)) evd_int).eq (decide_eq_false (by omega))) (s_next (s_weak ?_ fin)))
    have e : mval xs k = 0 := if_neg hl
    rw [e]
    walk_at "wk"
/-! ### the received row -/
theorem cat_rng {a b : Nat} {f g : Nat → PyData} : (List.range a).map f ++ (List.range b).map g = (List.range (a + b)).map fun k => if k < a then f k else g (k - a) := by
  refine List.ext_getElem? fun i => ?_
  by_cases h1 : i < a
  · rw [List.getElem?_append_left (by rw [len_rng]; exact h1), List.getElem?_map, List.getElem?_map, List.getElem?_range h1, List.getElem?_range (by omega)]
    show some (f i) = some (if i < a then f i else g (i - a))
    rw [if_pos h1]
  · rw [List.getElem?_append_right (by rw [len_rng]; omega), len_rng]
    by_cases h2 : i < a + b
    · rw [List.getElem?_map, List.getElem?_map, List.getElem?_range h2, List.getElem?_range (by omega)]
      show some (g (i - a)) = some (if i < a then f i else g (i - a))
      rw [if_neg h1]
    · rw [List.getElem?_eq_none (by rw [len_rng]; omega), List.getElem?_eq_none (by rw [len_rng]; omega)]
theorem drop_rng {n r : Nat} {f : Nat → PyData} : ((List.range n).map f).drop r = (List.range (n - r)).map fun j => f (r + j) := by
  refine List.ext_getElem? fun i => ?_
  rw [List.getElem?_drop]
  by_cases h : i < n - r
  · rw [List.getElem?_map, List.getElem?_map, List.getElem?_range h, List.getElem?_range (by omega)]
    rfl
  · rw [List.getElem?_eq_none (by rw [len_rng]; omega), List.getElem?_eq_none (by rw [len_rng]; omega)]
theorem rways_pos (xs : List Int) : 0 < rways xs := by
  unfold rways
  have h := mixf_lt xs 5 (m := 4) (by decide)
  generalize mixf xs 5 4 = m at h ⊢
  rcases m with _ | _ | _ | _ | m
  · decide
  · decide
  · decide
  · decide
  · omega
theorem rrow0_lt (xs : List Int) (r k : Nat) : rrow0 xs r k < 2 := by
  unfold rrow0
  split
  · decide
  · exact mixf_lt xs _ (by decide)
theorem rrow1_lt (xs : List Int) (P : Nat → Nat) (r n k : Nat) : rrow1 xs P r n k < 2 := by
  unfold rrow1
  split
  · exact Nat.mod_lt _ (by decide)
  · exact rrow0_lt xs r k
theorem rcv_bit (xs : List Int) (P : Nat → Nat) (r n : Nat) : Bit (rcv xs P r n) := fun k => by
  have h := rrow1_lt xs P r n k
  unfold rcv
  generalize rrow1 xs P r n k = b at h ⊢
  generalize mixf xs (400 + k) (rways xs) * (if mixf xs (401 + k) 3 = 1 then 1 else 0) = y
  have e0 : b = 0 ∨ b = 1 := by omega
  by_cases q : mixf xs (400 + k) (rways xs) < 2
  · rw [if_pos q]
    by_cases q2 : y = 0
    · rw [if_pos q2]
      rcases e0 with rfl | rfl
      · exact .inr (.inr rfl)
      · exact .inr (.inl rfl)
    · rw [if_neg q2]
      exact .inl rfl
  · rw [if_neg q]
    rcases e0 with rfl | rfl
    · exact .inr (.inl rfl)
    · exact .inr (.inr rfl)
theorem n_sub {K : PySem.W.Frag} {G : List Ent} {ta tb : TE} {a b : Nat} (ha : EvD K ta G (iD a)) (hb : EvD K tb G (iD b)) (h : b ≤ a) : EvD K (tOp xSub ta tb) G (iD (a - b)) := (i_sub ha hb).eq (congrArg PyData.int (by omega))
theorem sat_law_received (K : PySem.W.Frag) : ∀ ds d, S_law_received ds d → Sat K (t_law_received K) (entry N_law_received ds) (fun _ => d = .none) d := by
  rintro ds d ⟨xs, r, P, m, n, hx, h1, h8, hr, hn, hm, hP, rfl, rfl⟩
  have h8' := pow8 h8
  show Sat K (t_law_received K) [.im (.list (xs.map .int)), .im (iD r), .im (powD P m), .im (iD n), .no, .no, .no, .no, .no] _ _
  unfold t_law_received
  refine q_seq (s_asgF (ds := (List.range n).map fun k => iD (rrow0 xs r k)) ((evf_cat (evf_rep (ds := [.int 0]) (k := (r : Int)) (evf_lst (a1 evd_int) (by decide)) (dv 1) (by omega) (by omega) (by show 1 * _ ≤ _; omega)) (evf_lcR1 (n := n - r) (fun j => iD (mixf xs (20 + j) 2)) (a1 (n_sub (dv 3) (dv 1) (by omega))) (by omega) fun j hj => ?e1) ?e2).eq ?e3) ?_)
  case e1 => exact evd_call (a3 (dv 0) (n_add (c_nat 20) (dv 6)) (c_nat 2)) ⟨xs, 20 + j, 2, hx, by omega, by decide, rfl, rfl⟩
  case e2 =>
    rw [rep_int, len_rng, len_rng]
    omega
  case e3 =>
    rw [rep_int, cat_rng]
    have e : r + (n - r) = n := by omega
    rw [e]
    refine rng_congr fun k hk => ?_
    show _ = iD (if k < r then 0 else mixf xs (20 + (k - r)) 2)
    by_cases q : k < r
    · rw [if_pos q, if_pos q]
      rfl
    · rw [if_neg q, if_neg q]
  refine q_seq (s_asg (c_nat 0) ?_)
  refine q_seq (s_for2 (lo := r) (n := n) (a2 (dv 1) (dv 3)) (by omega) (fun i => [.im (.list (xs.map .int)), .im (iD r), .im (powD P m), .im (iD n), .ow ((List.range n).map fun k => iD (rrow0 xs r k)), .im (iD (rrest P (rrow0 xs r) r i)), .no, .no, .no]) ?w (fun i hi => ?b) ?dd)
  case w =>
    walk_at "wk"
    rfl
  case b =>
    have hPk := hP (r + i)
    refine q_seq (s_asg (n_xor (dv 5) (n_mul (x_pow rfl (dv 6) (by omega)) (evd_ix (d := iD (rrow0 xs r (r + i))) (ov 4) (dv 6) (at_rng (f := fun k => iD (rrow0 xs r k)) hi)) (by omega))) (s_next ?_))
    walk_at "wk"
    rfl
  case dd =>
    refine q_seq (s_asgF (ds := (List.range n).map fun k => oD (some (rrow1 xs P r n k : Int))) ((evf_cat (evf_lcR1 (n := r) (fun k => iD (rrest P (rrow0 xs r) r (n - r) / 2 ^ k % 2)) (a1 (dv 1)) (by omega) fun k hk => n_and1 (n_shr (dv 5) (dv 6))) (evf_from (ov 4) (dv 1)) ?e4).eq ?e5) ?_)
    case e4 =>
      rw [drop_rng, len_rng, len_rng]
      omega
    case e5 =>
      rw [drop_rng, cat_rng]
      have e : r + (n - r) = n := by omega
      rw [e]
      refine rng_congr fun k hk => ?_
      show _ = iD (if k < r then rrest P (rrow0 xs r) r (n - r) / 2 ^ k % 2 else rrow0 xs r k)
      by_cases q : k < r
      · rw [if_pos q, if_pos q]
      · rw [if_neg q, if_neg q]
        have e2 : r + (k - r) = k := by omega
        rw [e2]
    refine q_seq (s_asg (d := iD (rways xs)) (evd_ix (i := ((mixf xs 5 4 : Nat) : Int)) (EvF.toO (evf_lst (ds := [.int 40, .int 12, .int 5, .int 2]) (a4 evd_int evd_int evd_int evd_int) (by decide))) (evd_call (a3 (dv 0) (c_nat 5) (c_nat 4)) ⟨xs, 5, 4, hx, by decide, by decide, rfl, rfl⟩) ?e6) ?_)
    case e6 =>
      unfold rways
      have h := mixf_lt xs 5 (m := 4) (by decide)
      generalize mixf xs 5 4 = m at h ⊢
      rcases m with _ | _ | _ | _ | m
      · rfl
      · rfl
      · rfl
      · rfl
      · omega
    have hw := rways_pos xs
    refine q_seq (s_for1 (n := n) (a1 (dv 3)) (by omega) (fun i => [.im (.list (xs.map .int)), .im (iD r), .im (powD P m), .im (iD n), .ow ((List.range n).map fun k => oD (lj (fun k => some (rrow1 xs P r n k : Int)) (rcv xs P r n) i k)), .no, .no, .im (iD (rways xs)), .no]) ?w2 (fun k hk => ?b2) ?d2)
    case w2 =>
      walk_at "wk"
      rfl
    case b2 =>
      have hb := rrow1_lt xs P r n k
      have er : rcv xs P r n k = if mixf xs (400 + k) (rways xs) < 2 then (if mixf xs (400 + k) (rways xs) * (if mixf xs (401 + k) 3 = 1 then 1 else 0) = 0 then some (1 - (rrow1 xs P r n k : Int)) else none) else some (rrow1 xs P r n k : Int) := rfl
      refine q_seq (s_asg (evd_call (a3 (dv 0) (n_add (c_nat 400) (dv 6)) (dv 7)) ⟨xs, 400 + k, rways xs, hx, by omega, hw, rfl, rfl⟩) ?_)
      generalize mixf xs (400 + k) (rways xs) = way at *
      refine q_seq (s_if (n_lt (dv 8) (c_nat 2)) (fun z => q_seq (s_setitem (i := 4) (j := k) (d := oD (rcv xs P r n k)) rfl ?e7 (dv 6) (by rw [len_rng]; exact hk) (s_next (s_next ?_)))) (fun z => s_next (s_next ?_)))
      case e7 =>
        have z := of_decide_eq_true z
        rw [if_pos z] at er
        refine evd_ix (i := ((way * (if mixf xs (401 + k) 3 = 1 then 1 else 0) : Nat) : Int)) (EvF.toO (evf_lst (ds := [.int (1 - (rrow1 xs P r n k : Int)), .none]) (a2 (i_sub evd_int ((evd_ix (ov 4) (dv 6) (at_rng hk)).eq (congrArg oD (lj_at ..)))) evd_non) (Nat.le_of_ble_eq_true rfl))) (n_mul (dv 8) ((evd_intB (evd_op (d := iD (mixf xs (401 + k) 3)) (e := iD 1) (evd_call (a3 (dv 0) (n_add (c_nat 401) (dv 6)) (c_nat 3)) ⟨xs, 401 + k, 3, hx, by omega, by decide, rfl, rfl⟩) (c_nat 1) (rd_eqI _ _))).eq ?_) (by omega)) ?_
        · by_cases y : mixf xs (401 + k) 3 = 1
          · rw [y]
            rfl
          · rw [if_neg y, decide_eq_false (by omega)]
            rfl
        · rw [er]
          have y2 : (if mixf xs (401 + k) 3 = 1 then 1 else 0) < 2 := by split <;> decide
          generalize (if mixf xs (401 + k) 3 = 1 then 1 else 0) = y at y2 ⊢
          have hwy : way * y = 0 ∨ way * y = 1 := by
            rcases way with _ | _ | way
            · exact .inl (Nat.zero_mul y)
            · rw [Nat.zero_add, Nat.one_mul]
              omega
            · omega
          rcases hwy with e | e
          · rw [e, if_pos rfl]
            rfl
          · rw [e, if_neg (by decide)]
            rfl
      · walk_at "wk"
        exact congrArg Ent.ow (lj_set rfl)
      · walk_at "wk"
        refine congrArg Ent.ow (lj_same ?_)
        rw [er, if_neg (of_decide_eq_false z)]
    case d2 =>
      rw [lj_all]
      exact q_seq (s_retO rfl)

/-! ## sat8 -/
/-! ### the law -/
theorem Shp.tup2 {m : Nat} {a b : PyData} (ha : Shp m a) (hb : Shp m b) : Shp (m + 1) (.tuple [a, b]) := ⟨by
  show (a.canLay0 && (b.canLay0 && true)) = true
  rw [ha.can, hb.can]
  rfl, Nat.succ_le_succ (Nat.max_le.mpr ⟨ha.dep, Nat.max_le.mpr ⟨hb.dep, Nat.zero_le m⟩⟩)⟩
theorem Shp.up {m k : Nat} {d : PyData} (h : Shp m d) (hk : m ≤ k) : Shp k d := ⟨h.can, Nat.le_trans h.dep hk⟩
theorem shp_nats (l : List Nat) : Shp 1 (natsD l) := Shp.lst (fun a : Nat => Shp.int (a : Int)) l
theorem shp_row (row : Nat → Nat) (n : Nat) : Shp 1 (rowD row n) := Shp.lst (fun a => Shp.int (row a : Int)) (List.range n)
theorem shp_rec (rv : Nat → Option Int) (n : Nat) : Shp 1 (recD rv n) := Shp.lst (fun a => Shp.oD (rv a)) (List.range n)
theorem shp_stp (l : List (Int × Int)) : Shp 2 (stpD l) := Shp.lst shp_stp1 l
/-- two like data do not differ -/
theorem t_neD {K : PySem.W.Frag} {G : List Ent} {ta tb : TE} {d : PyData} {m : Nat} (ha : EvD K ta G d) (hb : EvD K tb G d) (h : Shp m d) (hm : m ≤ 64) : EvT K (tTest (tOp (rNeD K) ta tb)) G false :=
  (evt_test (evd_op ha hb (rd_neD (h.ok hm) (h.ok hm)))).eq (by rw [SeqAt.eqv_refl d h.can]; rfl)
theorem t_notTrue {K : PySem.W.Frag} {G : List Ent} {ta : TE} (ha : EvD K ta G (.bool true)) : EvT K (tTest (tOp rNotB ta (tC (.bl true)))) G false := evt_test (evd_op ha evd_bl (rd_notB true true))
theorem x_t0 {K : PySem.W.Frag} {G : List Ent} {ta : TE} {a : PyData} {as : List PyData} (ha : EvD K ta G (.tuple (a :: as))) : EvD K (tOp (rIxT K) ta (tC (.int 0))) G a := evd_ixT ha (c_nat 0) (atI_nat rfl)
theorem x_t1 {K : PySem.W.Frag} {G : List Ent} {ta : TE} {a b : PyData} {as : List PyData} (ha : EvD K ta G (.tuple (a :: b :: as))) : EvD K (tOp (rIxT K) ta (tC (.int 1))) G b := evd_ixT ha (c_nat 1) (atI_nat rfl)
theorem x_t2 {K : PySem.W.Frag} {G : List Ent} {ta : TE} {a b c : PyData} {as : List PyData} (ha : EvD K ta G (.tuple (a :: b :: c :: as))) : EvD K (tOp (rIxT K) ta (tC (.int 2))) G c := evd_ixT ha (c_nat 2) (atI_nat rfl)
theorem goes_row {r g n : Nat} {rv : Nat → Option Int} : natsD ([] ++ wbits (tbit (q0 rv) (Qtab r g n rv)) (pw r g) ([] : List Nat).length 0 (n - ([] : List Nat).length)) = rowD (trow r g n rv) n := by
  rw [row_nats]
  show natsD (wbits (tbit (q0 rv) (Qtab r g n rv)) (pw r g) 0 0 n) = _
  rw [wbits_trow]
theorem seal_of {r m : Nat} (h1 : 1 ≤ r) (h8 : r ≤ 8) (hm : m < 2 ^ (r - 1)) : Sl r (2 ^ r + 1 + 2 * m) := by
  have e : 2 ^ r = 2 * 2 ^ (r - 1) := by
    have e1 : r = (r - 1) + 1 := by omega
    rw [e1, Nat.pow_succ, Nat.add_sub_cancel, Nat.mul_comm]
  have e2 : 2 ^ (r + 1) = 2 * 2 ^ r := by rw [Nat.pow_succ, Nat.mul_comm]
  exact ⟨h1, h8, by omega, by omega, by omega⟩
theorem sat_law (K : PySem.W.Frag) : ∀ ds d, S_law ds d → Sat K (t_law K) (entry N_law ds) (fun _ => d = .none) d := by
  rintro ds d ⟨ns, hl, rfl, rfl⟩
  show Sat K (t_law K) [.im (.list (ns.map .int)), .no, .no, .no, .no, .no, .no, .no, .no, .no, .no, .no, .no, .no, .no] _ _
  unfold t_law
  have hx : Drw (draws ns ns.length) := ⟨draws_in ns ns.length, by have := draws_len ns ns.length; omega⟩
  refine q_seq (s_asg (evd_call (a1 (dv 0)) ⟨ns, hl, rfl, rfl⟩) ?_)
  generalize draws ns ns.length = xs at *
  -- the size
  have m8 := mixf_lt xs 0 (m := 8) (by decide)
  refine q_seq (s_asg (n_add (c_nat 1) (evd_call (a3 (dv 1) (c_nat 0) (c_nat 8)) ⟨xs, 0, 8, hx, by decide, by decide, rfl, rfl⟩)) ?_)
  have hr1 : 1 ≤ 1 + mixf xs 0 8 := by omega
  have hr8 : 1 + mixf xs 0 8 ≤ 8 := by omega
  generalize 1 + mixf xs 0 8 = r at *
  have h8' := pow8 hr8
  have hp1 : 0 < 2 ^ (r - 1) := Nat.two_pow_pos _
  -- the seal
  have mm := mixf_lt xs 1 (m := 2 ^ (r - 1)) hp1
  refine q_seq (s_asg (d := iD (2 ^ r + 1 + 2 * mixf xs 1 (2 ^ (r - 1)))) (n_add (n_add ((n_shl (c_nat 1) (dv 2) (by decide) (by omega)).eq (congrArg iD (Nat.one_mul _))) (c_nat 1)) (n_mul (c_nat 2) (evd_call (a3 (dv 1) (c_nat 1) ((n_shl (c_nat 1) (n_sub (dv 2) (c_nat 1) hr1) (by decide) (by omega)).eq (congrArg iD (Nat.one_mul _)))) ⟨xs, 1, 2 ^ (r - 1), hx, by decide, hp1, rfl, rfl⟩) (by decide))) ?_)
  have h := seal_of hr1 hr8 mm
  generalize 2 ^ r + 1 + 2 * mixf xs 1 (2 ^ (r - 1)) = g at *
  -- the number of bits
  have m4 := mixf_lt xs 3 (m := 4) (by decide)
  obtain ⟨lim, hl1, hl2, hat⟩ : ∃ lim, 1 ≤ lim ∧ lim ≤ 300 - r ∧ atI [iD (90 - r), iD (90 - r), iD (90 - r), iD (300 - r)] ((mixf xs 3 4 : Nat) : Int) = some (iD lim) := by
    generalize mixf xs 3 4 = j at m4 ⊢
    rcases j with _ | _ | _ | _ | j
    · exact ⟨90 - r, by omega, by omega, rfl⟩
    · exact ⟨90 - r, by omega, by omega, rfl⟩
    · exact ⟨90 - r, by omega, by omega, rfl⟩
    · exact ⟨300 - r, by omega, by omega, rfl⟩
    · omega
  have ml := mixf_lt xs 2 (m := lim) (by omega)
  refine q_seq (s_asg (d := iD (r + 1 + mixf xs 2 lim)) (n_add (n_add (dv 2) (c_nat 1)) (evd_call (a3 (dv 1) (c_nat 2) (evd_ix (EvF.toO (evf_lst (a4 (n_sub (c_nat 90) (dv 2) (by omega)) (n_sub (c_nat 90) (dv 2) (by omega)) (n_sub (c_nat 90) (dv 2) (by omega)) (n_sub (c_nat 300) (dv 2) (by omega))) (Nat.le_of_ble_eq_true rfl))) (evd_call (a3 (dv 1) (c_nat 3) (c_nat 4)) ⟨xs, 3, 4, hx, by decide, by decide, rfl, rfl⟩) hat)) ⟨xs, 2, lim, hx, by decide, by omega, rfl, rfl⟩)) ?_)
  have hn1 : r < r + 1 + mixf xs 2 lim := by omega
  have hn2 : r + 1 + mixf xs 2 lim ≤ 300 := by omega
  generalize r + 1 + mixf xs 2 lim = n at *
  have hP := pw_lt h
  refine q_seq (s_asg (evd_call (a3 (dv 3) (dv 2) (dv 4)) ⟨r, g, n, h, by omega, rfl, rfl⟩) ?_)
  -- the least unseen
  obtain ⟨W, st, L⟩ := lst_ex n (wgt_ex h hn1)
  refine q_seq (s_asg (evd_call (a3 (dv 2) (dv 5) (dv 4)) ⟨r, pw r g, n + 1, n, W, st, hr8, hn2, by omega, hP, L, rfl, rfl⟩) ?_)
  refine q_seq (s_asg (evd_call (a2 (dv 3) (dv 4)) ⟨r, g, n, W, st, h, hn1, hn2, L, rfl, rfl⟩) ?_)
  refine q_seq (s_ifF (evt_orF (t_neD (dv 7) (dv 6) (Shp.tup2 ((Shp.int W).up (Nat.zero_le 1)) (shp_nats _)) (by decide)) (t_notTrue (evd_call (a5 (dv 3) (dv 4) (x_t0 (dv 7)) (x_t1 (dv 7)) (evd_call (a2 (dv 3) (dv 4)) ⟨r, g, n, h, hn1, hn2, rfl, rfl⟩)) ⟨r, g, n, W, st, h, hn1, hn2, L, rfl, rfl⟩))) (s_next ?_))
  -- the profile
  refine q_seq (s_ifF (t_neD (d := stpD (prf (pw r g) (n - 1))) (evd_call (a2 (dv 3) (dv 4)) ⟨r, g, n, h, hn1, hn2, rfl, rfl⟩) (evd_call (a3 (dv 2) (dv 5) (dv 4)) ⟨r, pw r g, n + 1, n, hr1, hr8, by omega, hn2, by omega, hP, rfl, rfl⟩) (shp_stp _) (by decide)) (s_next ?_))
  -- the received row
  refine q_seq (s_asg (evd_call (a4 (dv 1) (dv 2) (dv 5) (dv 4)) ⟨xs, r, pw r g, n + 1, n, hx, hr1, hr8, hn1, hn2, by omega, hP, rfl, rfl⟩) ?_)
  have hbit := rcv_bit xs (pw r g) r n
  generalize rcv xs (pw r g) r n = rv at *
  refine q_seq (s_asgF (evf_list (lv 8)) (s_freeze (i := 9) rfl ?_))
  refine q_seq (s_asgF (evf_lcL1 (l := List.range n) (fun k => oD (rv k)) (fun k => .tuple [.int (q0 rv k), .int (q1 rv k)]) (lv 8) (by rw [List.length_range]; omega) fun k hk => evd_tup (a2 (e_price (dv 14)) (e_price (dv 14))) (Nat.le_of_ble_eq_true rfl)) (s_freeze (i := 10) rfl ?_))
  refine q_seq (s_asg (d := papD r (Qtab r g n rv) n) (evd_call (a3 (dv 2) (dv 5) (dv (d := priD (q0 rv) (q1 rv) n) 10)) ⟨r, pw r g, n + 1, n, q0 rv, q1 rv, hr8, hn2, by omega, hP, rfl, rfl⟩) ?_)
  refine q_seq (s_asg (d := rowD (trow r g n rv) n) (evd_call (a5 (dv 11) (dv 5) (dv (d := priD (q0 rv) (q1 rv) n) 10) (EvD.eq (EvF.toD (evf_lst eva_nil (by decide))) (e := natsD []) rfl) (c_nat 0)) ⟨r, pw r g, n + 1, n, q0 rv, q1 rv, Qtab r g n rv, [], 0, hn2, by omega, hr8, hP, Nat.zero_le n, Nat.two_pow_pos r, rfl, goes_row.symm⟩) ?_)
  refine q_seq (s_asg (evd_call (a2 (dv 3) (dv 8)) ⟨r, g, n, rv, h, hn1, hn2, rfl, rfl⟩) ?_)
  obtain ⟨v, hv⟩ := some0 (tb_tab (q0 rv) (q1 rv) (pw r g) n)
  have hv : Qtab r g n rv 0 0 = some v := hv
  obtain ⟨_, htot⟩ := trow_facts hv
  obtain ⟨M, LM⟩ := low_ex (oth_ex h hn1 hv)
  refine q_seq (s_ifF (evt_orF (t_neD (x_t0 (dv 13)) (dv 12) (shp_row _ _) (by decide)) (evt_orF ((evt_test (o_ne (x_t1 (dv 13)) (x_lay (x_pap (dv 11) (c_nat 0) (Nat.zero_le n)) (c_nat 0) (Nat.two_pow_pos r)))).eq (by rw [decide_eq_true rfl]; rfl)) (t_neD (d := recD rv n) (dv 8) (dv 9) (shp_rec _ _) (by decide)))) (s_next ?_))
  rw [hv]
  refine q_seq (s_ifF (t_notTrue (evd_call (a5 (dv 3) (dv 8) (dv 12) (x_t1 (dv 13)) (x_t2 (dv 13))) ⟨r, g, n, rv, v, h, hn1, hn2, hbit, hv, rfl, rfl⟩)) (s_next ?_))
  refine q_seq (s_ret ((evd_op (d := .int (M - v)) (e := .int (M - v)) (evd_call (a2 (dv 3) (dv 8)) ⟨r, g, n, rv, v, M, h, hn1, hn2, hv, LM, rfl, rfl⟩) (evd_call (a4 (dv 11) (dv 5) (dv (d := priD (q0 rv) (q1 rv) n) 10) (dv 12)) ⟨r, pw r g, n + 1, n, q0 rv, q1 rv, Qtab r g n rv, trow r g n rv, M, hr8, hn2, by omega, hP, trow_lt, LM, rfl, by rw [htot]⟩) (rd_eqI _ _)).eq ?_))
  rw [decide_eq_true rfl]

/-! ## the terms -/
def topS (i : Nat) : Stmt := PySem.Challenge.pw_farhaul_k72_whole_long_sealed_rows.main.body.getD i (.Pass ⟨0, 0, 0, 0⟩)
/-- a def that is called: where it stands, what it promises -/
def Cal (P : Program) (w : World) (K : PySem.W.Frag) (mg : Str → Option Value) (base : Heap) (k : Nat) (x : Str) (ps : List Str) (S : List PyData → PyData → Prop) : Prop :=
  ∃ (f : Addr) (fd : FuncData), FnOk P w K mg base CX0 k f fd ps (FnSp K S) ∧ mg x = some (.ref f) ∧ PySem.W.keepIn K (.ref f) = true ∧ Binds K fd ps []
section
variable {P : Program} {w : World} {K : PySem.W.Frag} {mg : Str → Option Value} {base : Heap}
abbrev s_degree : Stmt := topS 5
theorem sc_degree : FnScope N_degree P_degree (defScope s_degree) := ⟨rfl, rfl, rfl, by decide +kernel, rfl, by decide +kernel, by decide +kernel⟩
theorem ok_degree {f : Addr} {fd : FuncData} (F : Fun K "degree" "degree" s_degree f fd) (hs : ∀ ds r, S_degree ds r → Sat K (t_degree K) (entry N_degree ds) (fun _ => r = .none) r) (hl : ∀ ds r, S_degree ds r → ds.length = P_degree.length) : FnOk P w K mg base CX0 1 f fd P_degree (FnSp K S_degree) := by
  refine fn_ok (t := t_degree K) F sc_degree hl (by decide) (fun cdv A outer s H E hr => ?_) hs
  exact (pss_cons (ps_set (i := 1) sc_degree.nd rfl (Or.inl rfl) (pe_un un_neg pe_int))
      (pss_cons (ps_while PassesOwn.never (pt_cmpR op_gt (pv 0) pe_int (nomark _)) (pss_cons (ps_set (i := 0) sc_degree.nd rfl (Or.inl rfl) (pe_op op_shr (pv 0) pe_int))
      (pss_cons (ps_aug (i := 1) sc_degree.nd rfl (Or.inl rfl) pe_int ip_add)
      pss_nil)))
      (pss_cons (ps_ret (pv 1))
      pss_nil)))
abbrev s_rest_of : Stmt := topS 7
theorem sc_rest_of : FnScope N_rest_of P_rest_of (defScope s_rest_of) := ⟨rfl, rfl, rfl, by decide +kernel, rfl, by decide +kernel, by decide +kernel⟩
theorem ok_rest_of {f : Addr} {fd : FuncData} (F : Fun K "rest_of" "rest_of" s_rest_of f fd) (C_degree : Cal P w K mg base 1 "degree" P_degree S_degree) (z_range : mg "range" = none) (z_len : mg "len" = none) (hs : ∀ ds r, S_rest_of ds r → Sat K (t_rest_of K) (entry N_rest_of ds) (fun _ => r = .none) r) (hl : ∀ ds r, S_rest_of ds r → ds.length = P_rest_of.length) : FnOk P w K mg base CX0 2 f fd P_rest_of (FnSp K S_rest_of) := by
  obtain ⟨f_degree, fd_degree, G_degree, g_degree, k_degree, b_degree⟩ := C_degree
  refine fn_ok (t := t_rest_of K) F sc_rest_of hl (by decide) (fun cdv A outer s H E hr => ?_) hs
  exact (pss_cons (ps_set (i := 2) sc_rest_of.nd rfl (Or.inl rfl) (pe_call G_degree (hr.mono (by decide)) (by rfl) g_degree k_degree b_degree .nil pass0 (pa_cons (pv 0) pa_nil)))
      (pss_cons (ps_set (i := 3) sc_rest_of.nd rfl (Or.inl rfl) pe_int)
      (pss_cons (ps_for PassesOwn.never rfl (pi_range3 (by rfl) z_range (pa_cons (pe_op op_sub (pe_callB call_len_seq (by rfl) z_len PySem.boot_len (pa_cons (pv 1) pa_nil)) pe_int) (pa_cons (pe_un un_neg pe_int) (pa_cons (pe_un un_neg pe_int) pa_nil)))) (pg_name (i := 4) sc_rest_of.nd rfl (Or.inl rfl)) (pss_cons (ps_set (i := 3) sc_rest_of.nd rfl (Or.inl rfl) (pe_op op_xor (pe_op op_shl (pv 3) pe_int) (pe_ix ix_list (pv 1) (pv 4) (fun _ _ => rfl))))
      (pss_cons (ps_if (pt_cmpR op_eq (pe_op op_and (pe_op op_shr (pv 3) (pv 2)) pe_int) pe_int (nomark _)) (pss_cons (ps_set (i := 3) sc_rest_of.nd rfl (Or.inl rfl) (pe_op op_xor (pv 3) (pv 0)))
      pss_nil) pss_nil)
      pss_nil)))
      (pss_cons (ps_ret (pv 3))
      pss_nil))))
abbrev s_powers_of_x : Stmt := topS 8
theorem sc_powers_of_x : FnScope N_powers_of_x P_powers_of_x (defScope s_powers_of_x) := ⟨rfl, rfl, rfl, by decide +kernel, rfl, by decide +kernel, by decide +kernel⟩
theorem ok_powers_of_x {f : Addr} {fd : FuncData} (F : Fun K "powers_of_x" "powers_of_x" s_powers_of_x f fd) (C_degree : Cal P w K mg base 1 "degree" P_degree S_degree) (z_range : mg "range" = none) (hs : ∀ ds r, S_powers_of_x ds r → Sat K (t_powers_of_x K) (entry N_powers_of_x ds) (fun _ => r = .none) r) (hl : ∀ ds r, S_powers_of_x ds r → ds.length = P_powers_of_x.length) : FnOk P w K mg base CX0 2 f fd P_powers_of_x (FnSp K S_powers_of_x) := by
  obtain ⟨f_degree, fd_degree, G_degree, g_degree, k_degree, b_degree⟩ := C_degree
  refine fn_ok (t := t_powers_of_x K) F sc_powers_of_x hl (by decide) (fun cdv A outer s H E hr => ?_) hs
  exact (pss_cons (ps_set (i := 2) sc_powers_of_x.nd rfl (Or.inl rfl) (pe_call G_degree (hr.mono (by decide)) (by rfl) g_degree k_degree b_degree .nil pass0 (pa_cons (pv 0) pa_nil)))
      (pss_cons (ps_set (i := 3) sc_powers_of_x.nd rfl (Or.inl rfl) (pe_lst pa_nil))
      (pss_cons (ps_set (i := 4) sc_powers_of_x.nd rfl (Or.inl rfl) pe_int)
      (pss_cons (ps_for PassesOwn.never rfl (pi_range1 (by rfl) z_range (pa_cons (pv 1) pa_nil)) (pg_name (i := 5) sc_powers_of_x.nd rfl (Or.inl rfl)) (pss_cons (ps_if (pt_cmpR op_eq (pe_op op_and (pe_op op_shr (pv 4) (pv 2)) pe_int) pe_int (nomark _)) (pss_cons (ps_set (i := 4) sc_powers_of_x.nd rfl (Or.inl rfl) (pe_op op_xor (pv 4) (pv 0)))
      pss_nil) pss_nil)
      (pss_cons (ps_expr (pe_bm PySem.F.plainAttrs_list PySem.F.slot_list_append PySem.F.type_list_append mt_append (pv 3) (pa_cons (pv 4) pa_nil)))
      (pss_cons (ps_set (i := 4) sc_powers_of_x.nd rfl (Or.inl rfl) (pe_op op_shl (pv 4) pe_int))
      pss_nil))))
      (pss_cons (ps_ret (pv 3))
      pss_nil)))))
abbrev s_check_seal : Stmt := topS 10
theorem sc_check_seal : FnScope N_check_seal P_check_seal (defScope s_check_seal) := ⟨rfl, rfl, rfl, by decide +kernel, rfl, by decide +kernel, by decide +kernel⟩
theorem ok_check_seal {f : Addr} {fd : FuncData} (F : Fun K "check_seal" "check_seal" s_check_seal f fd) (C_degree : Cal P w K mg base 1 "degree" P_degree S_degree) (hs : ∀ ds r, S_check_seal ds r → Sat K (t_check_seal K) (entry N_check_seal ds) (fun _ => r = .none) r) (hl : ∀ ds r, S_check_seal ds r → ds.length = P_check_seal.length) : FnOk P w K mg base CX0 2 f fd P_check_seal (FnSp K S_check_seal) := by
  obtain ⟨f_degree, fd_degree, G_degree, g_degree, k_degree, b_degree⟩ := C_degree
  refine fn_ok (t := t_check_seal K) F sc_check_seal hl (by decide) (fun cdv A outer s H E hr => ?_) hs
  exact (pss_cons (ps_if (PW.pt (pw_or (pt_cmpR op_lt (pv 0) pe_int (nomark _)) (pw_or (pt_not (pt_chain op_le op_le pe_int (pe_call G_degree (hr.mono (by decide)) (by rfl) g_degree k_degree b_degree .nil pass0 (pa_cons (pv 0) pa_nil)) (pv 1))) (pw_or1 (pt_cmpR op_eq (pe_op op_and (pv 0) pe_int) pe_int (nomark _)))))) (pss_cons ps_never
      pss_nil) pss_nil)
      pss_nil)
abbrev s_check_rows : Stmt := topS 14
theorem sc_check_rows : FnScope N_check_rows P_check_rows (defScope s_check_rows) := ⟨rfl, rfl, rfl, by decide +kernel, rfl, by decide +kernel, by decide +kernel⟩
theorem ok_check_rows {f : Addr} {fd : FuncData} (F : Fun K "check_rows" "check_rows" s_check_rows f fd) (C_check_seal : Cal P w K mg base 2 "check_seal" P_check_seal S_check_seal) (C_degree : Cal P w K mg base 1 "degree" P_degree S_degree) {tk_MOST_DEGREE : Tok} (i_MOST_DEGREE : mg "MOST_DEGREE" = some (.int 8 tk_MOST_DEGREE)) {tk_MOST_BITS : Tok} (i_MOST_BITS : mg "MOST_BITS" = some (.int 300 tk_MOST_BITS)) (hs : ∀ ds r, S_check_rows ds r → Sat K (t_check_rows K) (entry N_check_rows ds) (fun _ => r = .none) r) (hl : ∀ ds r, S_check_rows ds r → ds.length = P_check_rows.length) : FnOk P w K mg base CX0 3 f fd P_check_rows (FnSp K S_check_rows) := by
  obtain ⟨f_check_seal, fd_check_seal, G_check_seal, g_check_seal, k_check_seal, b_check_seal⟩ := C_check_seal
  obtain ⟨f_degree, fd_degree, G_degree, g_degree, k_degree, b_degree⟩ := C_degree
  refine fn_ok (t := t_check_rows K) F sc_check_rows hl (by decide) (fun cdv A outer s H E hr => ?_) hs
  exact (pss_cons (ps_expr (pe_call G_check_seal (hr.mono (by decide)) (by rfl) g_check_seal k_check_seal b_check_seal .nil pass0 (pa_cons (pv 0) (pa_cons (pe_glob (by rfl) i_MOST_DEGREE ⟨_, rfl⟩) pa_nil))))
      (pss_cons (ps_if (pt_not (pt_chain op_lt op_le (pe_call G_degree (hr.mono (by decide)) (by rfl) g_degree k_degree b_degree .nil pass0 (pa_cons (pv 0) pa_nil)) (pv 1) (pe_glob (by rfl) i_MOST_BITS ⟨_, rfl⟩))) (pss_cons ps_never
      pss_nil) pss_nil)
      pss_nil))
abbrev s_states_of : Stmt := topS 15
theorem sc_states_of : FnScope N_states_of P_states_of (defScope s_states_of) := ⟨rfl, rfl, rfl, by decide +kernel, rfl, by decide +kernel, by decide +kernel⟩
theorem ok_states_of {f : Addr} {fd : FuncData} (F : Fun K "states_of" "states_of" s_states_of f fd) (C_degree : Cal P w K mg base 1 "degree" P_degree S_degree) (hs : ∀ ds r, S_states_of ds r → Sat K (t_states_of K) (entry N_states_of ds) (fun _ => r = .none) r) (hl : ∀ ds r, S_states_of ds r → ds.length = P_states_of.length) : FnOk P w K mg base CX0 2 f fd P_states_of (FnSp K S_states_of) := by
  obtain ⟨f_degree, fd_degree, G_degree, g_degree, k_degree, b_degree⟩ := C_degree
  refine fn_ok (t := t_states_of K) F sc_states_of hl (by decide) (fun cdv A outer s H E hr => ?_) hs
  exact (pss_cons (ps_ret (pe_op op_shl pe_int (pe_call G_degree (hr.mono (by decide)) (by rfl) g_degree k_degree b_degree .nil pass0 (pa_cons (pv 0) pa_nil))))
      pss_nil)
abbrev s_least_of : Stmt := topS 16
theorem sc_least_of : FnScope N_least_of P_least_of (defScope s_least_of) := ⟨rfl, rfl, rfl, by decide +kernel, rfl, by decide +kernel, by decide +kernel⟩
theorem ok_least_of {f : Addr} {fd : FuncData} (F : Fun K "least_of" "least_of" s_least_of f fd) (z_min : mg "min" = none) (hs : ∀ ds r, S_least_of ds r → Sat K (t_least_of K) (entry N_least_of ds) (fun _ => r = .none) r) (hl : ∀ ds r, S_least_of ds r → ds.length = P_least_of.length) : FnOk P w K mg base CX0 1 f fd P_least_of (FnSp K S_least_of) := by
  refine fn_ok (t := t_least_of K) F sc_least_of hl (by decide) (fun cdv A outer s H E hr => ?_) hs
  exact (pss_cons (ps_set (i := 4) sc_least_of.nd rfl (Or.inl rfl) (pe_lst pa_nil))
      (pss_cons (ps_for PassesOwn.never rfl (pi_tup (pe_tup (pa_cons pe_int (pa_cons pe_int pa_nil)))) (pg_name (i := 5) sc_least_of.nd rfl (Or.inl rfl)) (pss_cons (ps_set (i := 6) sc_least_of.nd rfl (Or.inl rfl) (pe_ix ix_list (pv 1) (pe_op op_xor (pv 2) (pe_op op_mul (pv 3) (pv 5))) (fun _ _ => rfl)))
      (pss_cons (ps_if (pt_cmpR op_notN (pv 6) pe_non (nomark _)) (pss_cons (ps_expr (pe_bm PySem.F.plainAttrs_list PySem.F.slot_list_append PySem.F.type_list_append mt_append (pv 4) (pa_cons (pe_op op_add (pv 6) (pe_ix ix_tup (pv 0) (pv 5) (fun _ _ => rfl))) pa_nil)))
      pss_nil) pss_nil)
      pss_nil)))
      (pss_cons (ps_ret (pe_ifExp (pt_truth (pv 4) (by intro _; rfl)) (pe_callB (cr_min rfl) (by rfl) z_min (by decide +kernel) (pa_cons (pv 4) pa_nil)) pe_non))
      pss_nil)))
abbrev s_lowest_paper : Stmt := topS 17
theorem sc_lowest_paper : FnScope N_lowest_paper P_lowest_paper (defScope s_lowest_paper) := ⟨rfl, rfl, rfl, by decide +kernel, rfl, by decide +kernel, by decide +kernel⟩
theorem ok_lowest_paper {f : Addr} {fd : FuncData} (F : Fun K "lowest_paper" "lowest_paper" s_lowest_paper f fd) (C_powers_of_x : Cal P w K mg base 2 "powers_of_x" P_powers_of_x S_powers_of_x) (C_states_of : Cal P w K mg base 2 "states_of" P_states_of S_states_of) (C_least_of : Cal P w K mg base 1 "least_of" P_least_of S_least_of) (z_len : mg "len" = none) (z_range : mg "range" = none) (hs : ∀ ds r, S_lowest_paper ds r → Sat K (t_lowest_paper K) (entry N_lowest_paper ds) (fun _ => r = .none) r) (hl : ∀ ds r, S_lowest_paper ds r → ds.length = P_lowest_paper.length) : FnOk P w K mg base CX0 3 f fd P_lowest_paper (FnSp K S_lowest_paper) := by
  obtain ⟨f_powers_of_x, fd_powers_of_x, G_powers_of_x, g_powers_of_x, k_powers_of_x, b_powers_of_x⟩ := C_powers_of_x
  obtain ⟨f_states_of, fd_states_of, G_states_of, g_states_of, k_states_of, b_states_of⟩ := C_states_of
  obtain ⟨f_least_of, fd_least_of, G_least_of, g_least_of, k_least_of, b_least_of⟩ := C_least_of
  refine fn_ok (t := t_lowest_paper K) F sc_lowest_paper hl (by decide) (fun cdv A outer s H E hr => ?_) hs
  exact (pss_cons (ps_set (i := 2) sc_lowest_paper.nd rfl (Or.inr rfl) (pe_call G_powers_of_x (hr.mono (by decide)) (by rfl) g_powers_of_x k_powers_of_x b_powers_of_x .nil pass0 (pa_cons (pv 0) (pa_cons (pe_callB call_len_seq (by rfl) z_len PySem.boot_len (pa_cons (pv 1) pa_nil)) pa_nil))))
      (pss_cons (ps_set (i := 3) sc_lowest_paper.nd rfl (Or.inr rfl) (pe_lst (pa_cons (pe_op op_cat (pe_lst (pa_cons pe_int pa_nil)) (pe_op op_rep (pe_lst (pa_cons pe_non pa_nil)) (pe_op op_sub (pe_call G_states_of (hr.mono (by decide)) (by rfl) g_states_of k_states_of b_states_of .nil pass0 (pa_cons (pv 0) pa_nil)) pe_int))) pa_nil)))
      (pss_cons (ps_for PassesOwn.never rfl (pi_range3 (by rfl) z_range (pa_cons (pe_op op_sub (pe_callB call_len_seq (by rfl) z_len PySem.boot_len (pa_cons (pv 1) pa_nil)) pe_int) (pa_cons (pe_un un_neg pe_int) (pa_cons (pe_un un_neg pe_int) pa_nil)))) (pg_name (i := 4) sc_lowest_paper.nd rfl (Or.inr rfl)) (pss_cons (ps_setLc (i := 5) (own := [("state", 6)]) (g := gName 6) (tt := tYes) (by rfl) sc_lowest_paper.nd rfl rfl (sw_true rfl rfl rfl (by decide +kernel)) (pi_range1 (by rfl) z_range (pa_cons (pe_call G_states_of (hr.mono (by decide)) (by rfl) g_states_of k_states_of b_states_of .nil pass0 (pa_cons (pv 0) pa_nil)) pa_nil)) (blkOk_by (own := [("state", 6)]) (N := N_lowest_paper) (sc := defScope s_lowest_paper) (by decide +kernel)) (fun _ _ _ _ _ => pg_name (i := 6) sc_lowest_paper.nd rfl (Or.inl rfl)) (fun _ _ _ _ _ => pts_nil) (fun _ _ _ _ _ => (pe_call G_least_of (hr.mono (by decide)) (by rfl) g_least_of k_least_of b_least_of .nil pass0 (pa_cons (pe_ix ix_list (pv 1) (pv 4) (fun _ _ => rfl)) (pa_cons (pe_ix ix_list (pv 3) (pe_un un_neg pe_int) (fun _ _ => rfl)) (pa_cons (pv 6) (pa_cons (pe_ix ix_list (pv 2) (pv 4) (fun _ _ => rfl)) pa_nil)))))))
      (pss_cons (ps_expr (pe_bm PySem.F.plainAttrs_list PySem.F.slot_list_append PySem.F.type_list_append mt_append (pv 3) (pa_cons (pv 5) pa_nil)))
      pss_nil)))
      (pss_cons (ps_expr (pe_bm0 PySem.F.plainAttrs_list PySem.F.slot_list_reverse PySem.F.type_list_reverse mt_reverse (pv 3)))
      (pss_cons (ps_ret (pv 3))
      pss_nil)))))
abbrev s_is_bound : Stmt := topS 18
theorem sc_is_bound : FnScope N_is_bound P_is_bound (defScope s_is_bound) := ⟨rfl, rfl, rfl, by decide +kernel, rfl, by decide +kernel, by decide +kernel⟩
theorem ok_is_bound {f : Addr} {fd : FuncData} (F : Fun K "is_bound" "is_bound" s_is_bound f fd) (C_states_of : Cal P w K mg base 2 "states_of" P_states_of S_states_of) (C_powers_of_x : Cal P w K mg base 2 "powers_of_x" P_powers_of_x S_powers_of_x) (C_least_of : Cal P w K mg base 1 "least_of" P_least_of S_least_of) (z_len : mg "len" = none) (z_all : mg "all" = none) (z_range : mg "range" = none) (hs : ∀ ds r, S_is_bound ds r → Sat K (t_is_bound K) (entry N_is_bound ds) (fun _ => r = .none) r) (hl : ∀ ds r, S_is_bound ds r → ds.length = P_is_bound.length) : FnOk P w K mg base CX0 3 f fd P_is_bound (FnSp K S_is_bound) := by
  obtain ⟨f_states_of, fd_states_of, G_states_of, g_states_of, k_states_of, b_states_of⟩ := C_states_of
  obtain ⟨f_powers_of_x, fd_powers_of_x, G_powers_of_x, g_powers_of_x, k_powers_of_x, b_powers_of_x⟩ := C_powers_of_x
  obtain ⟨f_least_of, fd_least_of, G_least_of, g_least_of, k_least_of, b_least_of⟩ := C_least_of
  refine fn_ok (t := t_is_bound K) F sc_is_bound hl (by decide) (fun cdv A outer s H E hr => ?_) hs
  exact (pss_cons (ps_set (i := 3) sc_is_bound.nd rfl (Or.inl rfl) (pe_callB call_len_seq (by rfl) z_len PySem.boot_len (pa_cons (pv 1) pa_nil)))
      (pss_cons (ps_if (PW.pt (pw_or (pt_cmpR op_ne (pe_callB call_len_seq (by rfl) z_len PySem.boot_len (pa_cons (pv 2) pa_nil)) (pe_op op_add (pv 3) pe_int) (nomark _)) (pw_or1 (pt_not (pt_val (pe_callB (cr_all rfl) (by rfl) z_all (by decide +kernel) (pa_cons (pe_lc (own := [("layer", 9)]) (g := gName 9) (tt := tYes) (by rfl) sc_is_bound.nd (pi_list (pv 2)) (blkOk_by (own := [("layer", 9)]) (N := N_is_bound) (sc := defScope s_is_bound) (by decide +kernel)) (fun _ _ _ _ _ => pg_name (i := 9) sc_is_bound.nd rfl (Or.inl rfl)) (fun _ _ _ _ _ => pts_nil) (fun _ _ _ _ _ => (pe_cmpR op_eq (pe_callB call_len_seq (by rfl) z_len PySem.boot_len (pa_cons (pv 9) pa_nil)) (pe_call G_states_of (hr.mono (by decide)) (by rfl) g_states_of k_states_of b_states_of .nil pass0 (pa_cons (pv 0) pa_nil)) (nomark _)))) pa_nil))))))) (pss_cons (ps_ret pe_bl)
      pss_nil) pss_nil)
      (pss_cons (ps_if (PW.pt (pw_or (pt_cmpR op_isN (pe_ix ix_list (pe_ix ix_list (pv 2) (pv 3) (fun _ _ => rfl)) pe_int (fun _ _ => rfl)) pe_non (nomark _)) (pw_or1 (pt_cmpR op_gt (pe_ix ix_list (pe_ix ix_list (pv 2) (pv 3) (fun _ _ => rfl)) pe_int (fun _ _ => rfl)) pe_int (nomark _))))) (pss_cons (ps_ret pe_bl)
      pss_nil) pss_nil)
      (pss_cons (ps_set (i := 4) sc_is_bound.nd rfl (Or.inl rfl) (pe_call G_powers_of_x (hr.mono (by decide)) (by rfl) g_powers_of_x k_powers_of_x b_powers_of_x .nil pass0 (pa_cons (pv 0) (pa_cons (pv 3) pa_nil))))
      (pss_cons (ps_for PassesOwn.never rfl (pi_range1 (by rfl) z_range (pa_cons (pv 3) pa_nil)) (pg_name (i := 5) sc_is_bound.nd rfl (Or.inl rfl)) (pss_cons (ps_for PassesOwn.never rfl (pi_range1 (by rfl) z_range (pa_cons (pe_call G_states_of (hr.mono (by decide)) (by rfl) g_states_of k_states_of b_states_of .nil pass0 (pa_cons (pv 0) pa_nil)) pa_nil)) (pg_name (i := 6) sc_is_bound.nd rfl (Or.inl rfl)) (pss_cons (ps_set (i := 7) sc_is_bound.nd rfl (Or.inl rfl) (pe_call G_least_of (hr.mono (by decide)) (by rfl) g_least_of k_least_of b_least_of .nil pass0 (pa_cons (pe_ix ix_list (pv 1) (pv 5) (fun _ _ => rfl)) (pa_cons (pe_ix ix_list (pv 2) (pe_op op_add (pv 5) pe_int) (fun _ _ => rfl)) (pa_cons (pv 6) (pa_cons (pe_ix ix_list (pv 4) (pv 5) (fun _ _ => rfl)) pa_nil))))))
      (pss_cons (ps_set (i := 8) sc_is_bound.nd rfl (Or.inl rfl) (pe_ix ix_list (pe_ix ix_list (pv 2) (pv 5) (fun _ _ => rfl)) (pv 6) (fun _ _ => rfl)))
      (pss_cons (ps_if (PW.pt (pw_and (pt_cmpR op_notN (pv 7) pe_non (nomark _)) (pw_and1 (PW.pt (pw_or (pt_cmpR op_isN (pv 8) pe_non (nomark _)) (pw_or1 (pt_cmpR op_gt (pv 8) (pv 7) (nomark _)))))))) (pss_cons (ps_ret pe_bl)
      pss_nil) pss_nil)
      pss_nil))))
      pss_nil))
      (pss_cons (ps_ret pe_bl)
      pss_nil))))))
abbrev s_state_paper : Stmt := topS 19
theorem sc_state_paper : FnScope N_state_paper P_state_paper (defScope s_state_paper) := ⟨rfl, rfl, rfl, by decide +kernel, rfl, by decide +kernel, by decide +kernel⟩
theorem ok_state_paper {f : Addr} {fd : FuncData} (F : Fun K "state_paper" "state_paper" s_state_paper f fd) (C_check_rows : Cal P w K mg base 3 "check_rows" P_check_rows S_check_rows) (C_lowest_paper : Cal P w K mg base 3 "lowest_paper" P_lowest_paper S_lowest_paper) (hs : ∀ ds r, S_state_paper ds r → Sat K (t_state_paper K) (entry N_state_paper ds) (fun _ => r = .none) r) (hl : ∀ ds r, S_state_paper ds r → ds.length = P_state_paper.length) : FnOk P w K mg base CX0 4 f fd P_state_paper (FnSp K S_state_paper) := by
  obtain ⟨f_check_rows, fd_check_rows, G_check_rows, g_check_rows, k_check_rows, b_check_rows⟩ := C_check_rows
  obtain ⟨f_lowest_paper, fd_lowest_paper, G_lowest_paper, g_lowest_paper, k_lowest_paper, b_lowest_paper⟩ := C_lowest_paper
  refine fn_ok (t := t_state_paper K) F sc_state_paper hl (by decide) (fun cdv A outer s H E hr => ?_) hs
  exact (pss_cons (ps_expr (pe_call G_check_rows (hr.mono (by decide)) (by rfl) g_check_rows k_check_rows b_check_rows .nil pass0 (pa_cons (pv 0) (pa_cons (pv 1) pa_nil))))
      (pss_cons (ps_ret (pe_call G_lowest_paper (hr.mono (by decide)) (by rfl) g_lowest_paper k_lowest_paper b_lowest_paper .nil pass0 (pa_cons (pv 0) (pa_cons (pe_op op_rep (pe_lst (pa_cons (pe_tup (pa_cons pe_int (pa_cons pe_int pa_nil))) pa_nil)) (pv 1)) pa_nil))))
      pss_nil))
abbrev s_beginnings : Stmt := topS 20
theorem sc_beginnings : FnScope N_beginnings P_beginnings (defScope s_beginnings) := ⟨rfl, rfl, rfl, by decide +kernel, rfl, by decide +kernel, by decide +kernel⟩
theorem ok_beginnings {f : Addr} {fd : FuncData} (F : Fun K "beginnings" "beginnings" s_beginnings f fd) (C_powers_of_x : Cal P w K mg base 2 "powers_of_x" P_powers_of_x S_powers_of_x) (z_range : mg "range" = none) (hs : ∀ ds r, S_beginnings ds r → Sat K (t_beginnings K) (entry N_beginnings ds) (fun _ => r = .none) r) (hl : ∀ ds r, S_beginnings ds r → ds.length = P_beginnings.length) : FnOk P w K mg base CX0 3 f fd P_beginnings (FnSp K S_beginnings) := by
  obtain ⟨f_powers_of_x, fd_powers_of_x, G_powers_of_x, g_powers_of_x, k_powers_of_x, b_powers_of_x⟩ := C_powers_of_x
  refine fn_ok (t := t_beginnings K) F sc_beginnings hl (by decide) (fun cdv A outer s H E hr => ?_) hs
  exact (pss_cons (ps_set (i := 3) sc_beginnings.nd rfl (Or.inr rfl) (pe_call G_powers_of_x (hr.mono (by decide)) (by rfl) g_powers_of_x k_powers_of_x b_powers_of_x .nil pass0 (pa_cons (pv 0) (pa_cons (pv 1) pa_nil))))
      (pss_cons (ps_setLc (i := 4) (own := [("place", 5)]) (g := gName 5) (tt := tYes) (by rfl) sc_beginnings.nd rfl rfl (sw_true rfl rfl rfl (by decide +kernel)) (pi_range1 (by rfl) z_range (pa_cons (pv 1) pa_nil)) (blkOk_by (own := [("place", 5)]) (N := N_beginnings) (sc := defScope s_beginnings) (by decide +kernel)) (fun _ _ _ _ _ => pg_name (i := 5) sc_beginnings.nd rfl (Or.inl rfl)) (fun _ _ _ _ _ => pts_nil) (fun _ _ _ _ _ => (pe_ix ix_list (pe_ix ix_list (pv 2) (pe_op op_add (pv 5) pe_int) (fun _ _ => rfl)) (pe_ix ix_list (pv 3) (pv 5) (fun _ _ => rfl)) (fun _ _ => rfl))))
      (pss_cons (ps_ret (pe_lc (own := [("rest", 6)]) (g := gName 6) (tt := tYes) (by rfl) sc_beginnings.nd (pi_list (pv 4)) (blkOk_by (own := [("rest", 6)]) (N := N_beginnings) (sc := defScope s_beginnings) (by decide +kernel)) (fun _ _ _ _ _ => pg_name (i := 6) sc_beginnings.nd rfl (Or.inl rfl)) (fun _ _ _ _ _ => pts_nil) (fun _ _ _ _ _ => (pe_ifExp (pt_cmpR op_isN (pv 6) pe_non (nomark _)) pe_non (pe_op op_add (pv 6) pe_int)))))
      pss_nil)))
abbrev s_least_unseen : Stmt := topS 21
theorem sc_least_unseen : FnScope N_least_unseen P_least_unseen (defScope s_least_unseen) := ⟨rfl, rfl, rfl, by decide +kernel, rfl, by decide +kernel, by decide +kernel⟩
theorem ok_least_unseen {f : Addr} {fd : FuncData} (F : Fun K "least_unseen" "least_unseen" s_least_unseen f fd) (C_state_paper : Cal P w K mg base 4 "state_paper" P_state_paper S_state_paper) (C_powers_of_x : Cal P w K mg base 2 "powers_of_x" P_powers_of_x S_powers_of_x) (C_beginnings : Cal P w K mg base 3 "beginnings" P_beginnings S_beginnings) (z_min : mg "min" = none) (z_max : mg "max" = none) (z_range : mg "range" = none) (hs : ∀ ds r, S_least_unseen ds r → Sat K (t_least_unseen K) (entry N_least_unseen ds) (fun _ => r = .none) r) (hl : ∀ ds r, S_least_unseen ds r → ds.length = P_least_unseen.length) : FnOk P w K mg base CX0 5 f fd P_least_unseen (FnSp K S_least_unseen) := by
  obtain ⟨f_state_paper, fd_state_paper, G_state_paper, g_state_paper, k_state_paper, b_state_paper⟩ := C_state_paper
  obtain ⟨f_powers_of_x, fd_powers_of_x, G_powers_of_x, g_powers_of_x, k_powers_of_x, b_powers_of_x⟩ := C_powers_of_x
  obtain ⟨f_beginnings, fd_beginnings, G_beginnings, g_beginnings, k_beginnings, b_beginnings⟩ := C_beginnings
  refine fn_ok (t := t_least_unseen K) F sc_least_unseen hl (by decide) (fun cdv A outer s H E hr => ?_) hs
  exact (pss_cons (ps_set (i := 2) sc_least_unseen.nd rfl (Or.inl rfl) (pe_call G_state_paper (hr.mono (by decide)) (by rfl) g_state_paper k_state_paper b_state_paper .nil pass0 (pa_cons (pv 0) (pa_cons (pv 1) pa_nil))))
      (pss_cons (ps_set (i := 3) sc_least_unseen.nd rfl (Or.inl rfl) (pe_call G_powers_of_x (hr.mono (by decide)) (by rfl) g_powers_of_x k_powers_of_x b_powers_of_x .nil pass0 (pa_cons (pv 0) (pa_cons (pv 1) pa_nil))))
      (pss_cons (ps_set (i := 4) sc_least_unseen.nd rfl (Or.inr rfl) (pe_call G_beginnings (hr.mono (by decide)) (by rfl) g_beginnings k_beginnings b_beginnings .nil pass0 (pa_cons (pv 0) (pa_cons (pv 1) (pa_cons (pv 2) pa_nil)))))
      (pss_cons (ps_set (i := 5) sc_least_unseen.nd rfl (Or.inr rfl) (pe_callB (cr_min rfl) (by rfl) z_min (by decide +kernel) (pa_cons (pe_lc (own := [("weight", 11)]) (g := gName 11) (tt := (tTest (tOp rIsnt (tVar 11) (tC .non)))) (by rfl) sc_least_unseen.nd (pi_list (pv 4)) (blkOk_by (own := [("weight", 11)]) (N := N_least_unseen) (sc := defScope s_least_unseen) (by decide +kernel)) (fun _ _ _ _ _ => pg_name (i := 11) sc_least_unseen.nd rfl (Or.inl rfl)) (fun _ _ _ _ _ => (pts_one (pt_cmpR op_notN (pv 11) pe_non (nomark _)))) (fun _ _ _ _ _ => (pv 11))) pa_nil)))
      (pss_cons (ps_set (i := 6) sc_least_unseen.nd rfl (Or.inl rfl) (pe_callB (cr_max rfl) (by rfl) z_max (by decide +kernel) (pa_cons (pe_lc (own := [("place", 9)]) (g := gName 9) (tt := (tTest (tOp rEq (tOp (rIxL K) (tVar 4) (tVar 9)) (tVar 5)))) (by rfl) sc_least_unseen.nd (pi_range1 (by rfl) z_range (pa_cons (pv 1) pa_nil)) (blkOk_by (own := [("place", 9)]) (N := N_least_unseen) (sc := defScope s_least_unseen) (by decide +kernel)) (fun _ _ _ _ _ => pg_name (i := 9) sc_least_unseen.nd rfl (Or.inl rfl)) (fun _ _ _ _ _ => (pts_one (pt_cmpR op_eq (pe_ix ix_list (pv 4) (pv 9) (fun _ _ => rfl)) (pv 5) (nomark _)))) (fun _ _ _ _ _ => (pv 9))) pa_nil)))
      (pss_cons (ps_set (i := 7) sc_least_unseen.nd rfl (Or.inl rfl) (pe_op op_cat (pe_op op_rep (pe_lst (pa_cons pe_int pa_nil)) (pv 6)) (pe_lst (pa_cons pe_int pa_nil))))
      (pss_cons (ps_set (i := 8) sc_least_unseen.nd rfl (Or.inl rfl) (pe_ix ix_list (pv 3) (pv 6) (fun _ _ => rfl)))
      (pss_cons (ps_for PassesOwn.never rfl (pi_range2 (by rfl) z_range (pa_cons (pe_op op_add (pv 6) pe_int) (pa_cons (pv 1) pa_nil))) (pg_name (i := 9) sc_least_unseen.nd rfl (Or.inl rfl)) (pss_cons (ps_set (i := 10) sc_least_unseen.nd rfl (Or.inl rfl) (pe_ifExp (pt_cmpR op_eq (pe_ix ix_list (pe_ix ix_list (pv 2) (pe_op op_add (pv 9) pe_int) (fun _ _ => rfl)) (pv 8) (fun _ _ => rfl)) (pe_ix ix_list (pe_ix ix_list (pv 2) (pv 9) (fun _ _ => rfl)) (pv 8) (fun _ _ => rfl)) (nomark _)) pe_int pe_int))
      (pss_cons (ps_expr (pe_bm PySem.F.plainAttrs_list PySem.F.slot_list_append PySem.F.type_list_append mt_append (pv 7) (pa_cons (pv 10) pa_nil)))
      (pss_cons (ps_set (i := 8) sc_least_unseen.nd rfl (Or.inl rfl) (pe_op op_xor (pv 8) (pe_op op_mul (pe_ix ix_list (pv 3) (pv 9) (fun _ _ => rfl)) (pv 10))))
      pss_nil))))
      (pss_cons (ps_ret (pe_tup (pa_cons (pv 5) (pa_cons (pv 7) pa_nil))))
      pss_nil)))))))))
abbrev s_check_unseen : Stmt := topS 22
theorem sc_check_unseen : FnScope N_check_unseen P_check_unseen (defScope s_check_unseen) := ⟨rfl, rfl, rfl, by decide +kernel, rfl, by decide +kernel, by decide +kernel⟩
theorem ok_check_unseen {f : Addr} {fd : FuncData} (F : Fun K "check_unseen" "check_unseen" s_check_unseen f fd) (C_check_rows : Cal P w K mg base 3 "check_rows" P_check_rows S_check_rows) (C_rest_of : Cal P w K mg base 2 "rest_of" P_rest_of S_rest_of) (C_is_bound : Cal P w K mg base 3 "is_bound" P_is_bound S_is_bound) (C_beginnings : Cal P w K mg base 3 "beginnings" P_beginnings S_beginnings) (z_len : mg "len" = none) (z_all : mg "all" = none) (z_sum : mg "sum" = none) (hs : ∀ ds r, S_check_unseen ds r → Sat K (t_check_unseen K) (entry N_check_unseen ds) (fun _ => r = .none) r) (hl : ∀ ds r, S_check_unseen ds r → ds.length = P_check_unseen.length) : FnOk P w K mg base CX0 4 f fd P_check_unseen (FnSp K S_check_unseen) := by
  obtain ⟨f_check_rows, fd_check_rows, G_check_rows, g_check_rows, k_check_rows, b_check_rows⟩ := C_check_rows
  obtain ⟨f_rest_of, fd_rest_of, G_rest_of, g_rest_of, k_rest_of, b_rest_of⟩ := C_rest_of
  obtain ⟨f_is_bound, fd_is_bound, G_is_bound, g_is_bound, k_is_bound, b_is_bound⟩ := C_is_bound
  obtain ⟨f_beginnings, fd_beginnings, G_beginnings, g_beginnings, k_beginnings, b_beginnings⟩ := C_beginnings
  refine fn_ok (t := t_check_unseen K) F sc_check_unseen hl (by decide) (fun cdv A outer s H E hr => ?_) hs
  exact (pss_cons (ps_expr (pe_call G_check_rows (hr.mono (by decide)) (by rfl) g_check_rows k_check_rows b_check_rows .nil pass0 (pa_cons (pv 0) (pa_cons (pv 1) pa_nil))))
      (pss_cons (ps_if (PW.pt (pw_or (pt_cmpR op_ne (pe_callB call_len_seq (by rfl) z_len PySem.boot_len (pa_cons (pv 3) pa_nil)) (pv 1) (nomark _)) (pw_or (pt_not (pt_val (pe_callB (cr_all rfl) (by rfl) z_all (by decide +kernel) (pa_cons (pe_lc (own := [("bit", 5)]) (g := gName 5) (tt := tYes) (by rfl) sc_check_unseen.nd (pi_list (pv 3)) (blkOk_by (own := [("bit", 5)]) (N := N_check_unseen) (sc := defScope s_check_unseen) (by decide +kernel)) (fun _ _ _ _ _ => pg_name (i := 5) sc_check_unseen.nd rfl (Or.inl rfl)) (fun _ _ _ _ _ => pts_nil) (fun _ _ _ _ _ => (pe_cmpR op_in_seq (pv 5) (pe_tup (pa_cons pe_int (pa_cons pe_int pa_nil))) (by rfl)))) pa_nil)))) (pw_or (pt_cmpR op_ne (pe_callB (cr_sum rfl) (by rfl) z_sum (by decide +kernel) (pa_cons (pv 3) pa_nil)) (pv 2) (nomark _)) (pw_or1 (pt_cmpR op_lt (pv 2) pe_int (nomark _))))))) (pss_cons (ps_ret pe_bl)
      pss_nil) pss_nil)
      (pss_cons (ps_if (PW.pt (pw_or (pt_cmpR op_ne (pe_call G_rest_of (hr.mono (by decide)) (by rfl) g_rest_of k_rest_of b_rest_of .nil pass0 (pa_cons (pv 0) (pa_cons (pv 3) pa_nil))) pe_int (nomark _)) (pw_or1 (pt_not (pt_val (pe_call G_is_bound (hr.mono (by decide)) (by rfl) g_is_bound k_is_bound b_is_bound .nil pass0 (pa_cons (pv 0) (pa_cons (pe_op op_rep (pe_lst (pa_cons (pe_tup (pa_cons pe_int (pa_cons pe_int pa_nil))) pa_nil)) (pv 1)) (pa_cons (pv 4) pa_nil))))))))) (pss_cons (ps_ret pe_bl)
      pss_nil) pss_nil)
      (pss_cons (ps_ret (pe_callB (cr_all rfl) (by rfl) z_all (by decide +kernel) (pa_cons (pe_lc (own := [("bound", 6)]) (g := gName 6) (tt := tYes) (by rfl) sc_check_unseen.nd (pi_list (pe_call G_beginnings (hr.mono (by decide)) (by rfl) g_beginnings k_beginnings b_beginnings .nil pass0 (pa_cons (pv 0) (pa_cons (pv 1) (pa_cons (pv 4) pa_nil))))) (blkOk_by (own := [("bound", 6)]) (N := N_check_unseen) (sc := defScope s_check_unseen) (by decide +kernel)) (fun _ _ _ _ _ => pg_name (i := 6) sc_check_unseen.nd rfl (Or.inl rfl)) (fun _ _ _ _ _ => pts_nil) (fun _ _ _ _ _ => (pe_or (pe_cmpR op_isN (pv 6) pe_non (nomark _)) (pe_one (pe_cmpR op_le (pv 2) (pv 6) (nomark _)))))) pa_nil)))
      pss_nil))))
abbrev s_profile : Stmt := topS 23
theorem sc_profile : FnScope N_profile P_profile (defScope s_profile) := ⟨rfl, rfl, rfl, by decide +kernel, rfl, by decide +kernel, by decide +kernel⟩
theorem ok_profile {f : Addr} {fd : FuncData} (F : Fun K "profile" "profile" s_profile f fd) (C_check_rows : Cal P w K mg base 3 "check_rows" P_check_rows S_check_rows) (C_powers_of_x : Cal P w K mg base 2 "powers_of_x" P_powers_of_x S_powers_of_x) (C_states_of : Cal P w K mg base 2 "states_of" P_states_of S_states_of) (z_range : mg "range" = none) (z_list : mg "list" = none) (hs : ∀ ds r, S_profile ds r → Sat K (t_profile K) (entry N_profile ds) (fun _ => r = .none) r) (hl : ∀ ds r, S_profile ds r → ds.length = P_profile.length) : FnOk P w K mg base CX0 4 f fd P_profile (FnSp K S_profile) := by
  obtain ⟨f_check_rows, fd_check_rows, G_check_rows, g_check_rows, k_check_rows, b_check_rows⟩ := C_check_rows
  obtain ⟨f_powers_of_x, fd_powers_of_x, G_powers_of_x, g_powers_of_x, k_powers_of_x, b_powers_of_x⟩ := C_powers_of_x
  obtain ⟨f_states_of, fd_states_of, G_states_of, g_states_of, k_states_of, b_states_of⟩ := C_states_of
  refine fn_ok (t := t_profile K) F sc_profile hl (by decide) (fun cdv A outer s H E hr => ?_) hs
  exact (pss_cons (ps_expr (pe_call G_check_rows (hr.mono (by decide)) (by rfl) g_check_rows k_check_rows b_check_rows .nil pass0 (pa_cons (pv 0) (pa_cons (pv 1) pa_nil))))
      (pss_cons (ps_set (i := 2) sc_profile.nd rfl (Or.inl rfl) (pe_call G_powers_of_x (hr.mono (by decide)) (by rfl) g_powers_of_x k_powers_of_x b_powers_of_x .nil pass0 (pa_cons (pv 0) (pa_cons (pv 1) pa_nil))))
      (pss_cons (ps_set (i := 3) sc_profile.nd rfl (Or.inl rfl) (pe_op op_rep (pe_lst (pa_cons pe_non pa_nil)) (pe_call G_states_of (hr.mono (by decide)) (by rfl) g_states_of k_states_of b_states_of .nil pass0 (pa_cons (pv 0) pa_nil))))
      (pss_cons (ps_asg pe_int (pg_sub (pv 3) pe_int set_list))
      (pss_cons (ps_set (i := 4) sc_profile.nd rfl (Or.inl rfl) (pe_lst pa_nil))
      (pss_cons (ps_for PassesOwn.never rfl (pi_range2 (by rfl) z_range (pa_cons pe_int (pa_cons (pv 1) pa_nil))) (pg_name (i := 5) sc_profile.nd rfl (Or.inl rfl)) (pss_cons (ps_set (i := 6) sc_profile.nd rfl (Or.inl rfl) (pe_callTy call_list_of (by rfl) z_list (by decide +kernel) (pa_cons (pv 3) pa_nil)))
      (pss_cons (ps_for PassesOwn.never rfl (pi_range1 (by rfl) z_range (pa_cons (pe_call G_states_of (hr.mono (by decide)) (by rfl) g_states_of k_states_of b_states_of .nil pass0 (pa_cons (pv 0) pa_nil)) pa_nil)) (pg_name (i := 7) sc_profile.nd rfl (Or.inl rfl)) (pss_cons (ps_set (i := 8) sc_profile.nd rfl (Or.inl rfl) (pe_ix ix_list (pv 6) (pe_op op_xor (pv 7) (pe_ix ix_list (pv 2) (pv 5) (fun _ _ => rfl))) (fun _ _ => rfl)))
      (pss_cons (ps_if (PW.pt (pw_and (pt_cmpR op_notN (pv 8) pe_non (nomark _)) (pw_and1 (PW.pt (pw_or (pt_cmpR op_isN (pe_ix ix_list (pv 3) (pv 7) (fun _ _ => rfl)) pe_non (nomark _)) (pw_or1 (pt_cmpR op_lt (pe_op op_add (pv 8) pe_int) (pe_ix ix_list (pv 3) (pv 7) (fun _ _ => rfl)) (nomark _)))))))) (pss_cons (ps_asg (pe_op op_add (pv 8) pe_int) (pg_sub (pv 3) (pv 7) set_list))
      pss_nil) pss_nil)
      pss_nil)))
      (pss_cons (ps_if (PW.pt (pw_and (pt_cmpR op_notN (pe_ix ix_list (pv 3) pe_int (fun _ _ => rfl)) pe_non (nomark _)) (pw_and1 (PW.pt (pw_or (pt_not (pt_truth (pv 4) (by intro _; rfl))) (pw_or1 (pt_cmpR op_lt (pe_ix ix_list (pv 3) pe_int (fun _ _ => rfl)) (pe_ix ix_tup (pe_ix ix_list (pv 4) (pe_un un_neg pe_int) (fun _ _ => rfl)) pe_int (fun _ _ => rfl)) (nomark _)))))))) (pss_cons (ps_expr (pe_bm PySem.F.plainAttrs_list PySem.F.slot_list_append PySem.F.type_list_append mt_append (pv 4) (pa_cons (pe_tup (pa_cons (pe_op op_add (pv 5) pe_int) (pa_cons (pe_ix ix_list (pv 3) pe_int (fun _ _ => rfl)) pa_nil))) pa_nil)))
      pss_nil) pss_nil)
      pss_nil))))
      (pss_cons (ps_ret (pv 4))
      pss_nil)))))))
abbrev s_prices_of : Stmt := topS 25
theorem sc_prices_of : FnScope N_prices_of P_prices_of (defScope s_prices_of) := ⟨rfl, rfl, rfl, by decide +kernel, rfl, by decide +kernel, by decide +kernel⟩
theorem ok_prices_of {f : Addr} {fd : FuncData} (F : Fun K "prices_of" "prices_of" s_prices_of f fd) (z_int : mg "int" = none) (hs : ∀ ds r, S_prices_of ds r → Sat K (t_prices_of K) (entry N_prices_of ds) (fun _ => r = .none) r) (hl : ∀ ds r, S_prices_of ds r → ds.length = P_prices_of.length) : FnOk P w K mg base CX0 1 f fd P_prices_of (FnSp K S_prices_of) := by
  refine fn_ok (t := t_prices_of K) F sc_prices_of hl (by decide) (fun cdv A outer s H E hr => ?_) hs
  exact (pss_cons (ps_ret (pe_lc (own := [("bit", 1)]) (g := gName 1) (tt := tYes) (by rfl) sc_prices_of.nd (pi_list (pv 0)) (blkOk_by (own := [("bit", 1)]) (N := N_prices_of) (sc := defScope s_prices_of) (by decide +kernel)) (fun _ _ _ _ _ => pg_name (i := 1) sc_prices_of.nd rfl (Or.inl rfl)) (fun _ _ _ _ _ => pts_nil) (fun _ _ _ _ _ => (pe_tup (pa_cons (pe_callTy call_int1 (by rfl) z_int (by decide +kernel) (pa_cons (pe_cmpR op_eq (pv 1) pe_int (nomark _)) pa_nil)) (pa_cons (pe_callTy call_int1 (by rfl) z_int (by decide +kernel) (pa_cons (pe_cmpR op_eq (pv 1) pe_int (nomark _)) pa_nil)) pa_nil))))))
      pss_nil)
abbrev s_price : Stmt := topS 26
theorem sc_price : FnScope N_price P_price (defScope s_price) := ⟨rfl, rfl, rfl, by decide +kernel, rfl, by decide +kernel, by decide +kernel⟩
theorem ok_price {f : Addr} {fd : FuncData} (F : Fun K "price" "price" s_price f fd) (z_len : mg "len" = none) (z_range : mg "range" = none) (hs : ∀ ds r, S_price ds r → Sat K (t_price K) (entry N_price ds) (fun _ => r = .none) r) (hl : ∀ ds r, S_price ds r → ds.length = P_price.length) : FnOk P w K mg base CX0 1 f fd P_price (FnSp K S_price) := by
  refine fn_ok (t := t_price K) F sc_price hl (by decide) (fun cdv A outer s H E hr => ?_) hs
  exact (pss_cons (ps_ret (pe_callB call_len_seq (by rfl) z_len PySem.boot_len (pa_cons (pe_lc (own := [("k", 2)]) (g := gName 2) (tt := (tAnd (tTest (tOp rIsnt (tOp (rIxL K) (tVar 0) (tVar 2)) (tC .non))) (tTest (tOp rNe (tOp (rIxL K) (tVar 0) (tVar 2)) (tOp (rIxL K) (tVar 1) (tVar 2)))))) (by rfl) sc_price.nd (pi_range1 (by rfl) z_range (pa_cons (pe_callB call_len_seq (by rfl) z_len PySem.boot_len (pa_cons (pv 1) pa_nil)) pa_nil)) (blkOk_by (own := [("k", 2)]) (N := N_price) (sc := defScope s_price) (by decide +kernel)) (fun _ _ _ _ _ => pg_name (i := 2) sc_price.nd rfl (Or.inl rfl)) (fun _ _ _ _ _ => (pts_one (PW.pt (pw_and (pt_cmpR op_notN (pe_ix ix_list (pv 0) (pv 2) (fun _ _ => rfl)) pe_non (nomark _)) (pw_and1 (pt_cmpR op_ne (pe_ix ix_list (pv 0) (pv 2) (fun _ _ => rfl)) (pe_ix ix_list (pv 1) (pv 2) (fun _ _ => rfl)) (nomark _))))))) (fun _ _ _ _ _ => (pv 2))) pa_nil)))
      pss_nil)
abbrev s_nearest : Stmt := topS 27
theorem sc_nearest : FnScope N_nearest P_nearest (defScope s_nearest) := ⟨rfl, rfl, rfl, by decide +kernel, rfl, by decide +kernel, by decide +kernel⟩
theorem ok_nearest {f : Addr} {fd : FuncData} (F : Fun K "nearest" "nearest" s_nearest f fd) (C_check_rows : Cal P w K mg base 3 "check_rows" P_check_rows S_check_rows) (C_prices_of : Cal P w K mg base 1 "prices_of" P_prices_of S_prices_of) (C_powers_of_x : Cal P w K mg base 2 "powers_of_x" P_powers_of_x S_powers_of_x) (C_lowest_paper : Cal P w K mg base 3 "lowest_paper" P_lowest_paper S_lowest_paper) (z_len : mg "len" = none) (z_range : mg "range" = none) (hs : ∀ ds r, S_nearest ds r → Sat K (t_nearest K) (entry N_nearest ds) (fun _ => r = .none) r) (hl : ∀ ds r, S_nearest ds r → ds.length = P_nearest.length) : FnOk P w K mg base CX0 4 f fd P_nearest (FnSp K S_nearest) := by
  obtain ⟨f_check_rows, fd_check_rows, G_check_rows, g_check_rows, k_check_rows, b_check_rows⟩ := C_check_rows
  obtain ⟨f_prices_of, fd_prices_of, G_prices_of, g_prices_of, k_prices_of, b_prices_of⟩ := C_prices_of
  obtain ⟨f_powers_of_x, fd_powers_of_x, G_powers_of_x, g_powers_of_x, k_powers_of_x, b_powers_of_x⟩ := C_powers_of_x
  obtain ⟨f_lowest_paper, fd_lowest_paper, G_lowest_paper, g_lowest_paper, k_lowest_paper, b_lowest_paper⟩ := C_lowest_paper
  refine fn_ok (t := t_nearest K) F sc_nearest hl (by decide) (fun cdv A outer s H E hr => ?_) hs
  exact (pss_cons (ps_expr (pe_call G_check_rows (hr.mono (by decide)) (by rfl) g_check_rows k_check_rows b_check_rows .nil pass0 (pa_cons (pv 0) (pa_cons (pe_callB call_len_seq (by rfl) z_len PySem.boot_len (pa_cons (pv 1) pa_nil)) pa_nil))))
      (pss_cons (ps_set (i := 2) sc_nearest.nd rfl (Or.inl rfl) (pe_call G_prices_of (hr.mono (by decide)) (by rfl) g_prices_of k_prices_of b_prices_of .nil pass0 (pa_cons (pv 1) pa_nil)))
      (pss_cons (ps_set (i := 3) sc_nearest.nd rfl (Or.inl rfl) (pe_call G_powers_of_x (hr.mono (by decide)) (by rfl) g_powers_of_x k_powers_of_x b_powers_of_x .nil pass0 (pa_cons (pv 0) (pa_cons (pe_callB call_len_seq (by rfl) z_len PySem.boot_len (pa_cons (pv 1) pa_nil)) pa_nil))))
      (pss_cons (ps_set (i := 4) sc_nearest.nd rfl (Or.inl rfl) (pe_call G_lowest_paper (hr.mono (by decide)) (by rfl) g_lowest_paper k_lowest_paper b_lowest_paper .nil pass0 (pa_cons (pv 0) (pa_cons (pv 2) pa_nil))))
      (pss_cons (ps_set (i := 5) sc_nearest.nd rfl (Or.inl rfl) (pe_lst pa_nil))
      (pss_cons (ps_set (i := 6) sc_nearest.nd rfl (Or.inl rfl) pe_int)
      (pss_cons (ps_for PassesOwn.never rfl (pi_range1 (by rfl) z_range (pa_cons (pe_callB call_len_seq (by rfl) z_len PySem.boot_len (pa_cons (pv 1) pa_nil)) pa_nil)) (pg_name (i := 7) sc_nearest.nd rfl (Or.inl rfl)) (pss_cons (ps_set (i := 8) sc_nearest.nd rfl (Or.inl rfl) (pe_ix ix_list (pe_ix ix_list (pv 4) (pe_op op_add (pv 7) pe_int) (fun _ _ => rfl)) (pv 6) (fun _ _ => rfl)))
      (pss_cons (ps_set (i := 9) sc_nearest.nd rfl (Or.inl rfl) pe_int)
      (pss_cons (ps_if (PW.pt (pw_and (pt_cmpR op_notN (pv 8) pe_non (nomark _)) (pw_and1 (pt_cmpR op_eq (pe_op op_add (pv 8) (pe_ix ix_tup (pe_ix ix_list (pv 2) (pv 7) (fun _ _ => rfl)) pe_int (fun _ _ => rfl))) (pe_ix ix_list (pe_ix ix_list (pv 4) (pv 7) (fun _ _ => rfl)) (pv 6) (fun _ _ => rfl)) (nomark _))))) (pss_cons (ps_set (i := 9) sc_nearest.nd rfl (Or.inl rfl) pe_int)
      pss_nil) pss_nil)
      (pss_cons (ps_expr (pe_bm PySem.F.plainAttrs_list PySem.F.slot_list_append PySem.F.type_list_append mt_append (pv 5) (pa_cons (pv 9) pa_nil)))
      (pss_cons (ps_set (i := 6) sc_nearest.nd rfl (Or.inl rfl) (pe_op op_xor (pv 6) (pe_op op_mul (pe_ix ix_list (pv 3) (pv 7) (fun _ _ => rfl)) (pv 9))))
      pss_nil))))))
      (pss_cons (ps_ret (pe_tup (pa_cons (pv 5) (pa_cons (pe_ix ix_list (pe_ix ix_list (pv 4) pe_int (fun _ _ => rfl)) pe_int (fun _ _ => rfl)) (pa_cons (pv 4) pa_nil)))))
      pss_nil))))))))
abbrev s_others : Stmt := topS 28
theorem sc_others : FnScope N_others P_others (defScope s_others) := ⟨rfl, rfl, rfl, by decide +kernel, rfl, by decide +kernel, by decide +kernel⟩
theorem ok_others {f : Addr} {fd : FuncData} (F : Fun K "others" "others" s_others f fd) (C_prices_of : Cal P w K mg base 1 "prices_of" P_prices_of S_prices_of) (C_powers_of_x : Cal P w K mg base 2 "powers_of_x" P_powers_of_x S_powers_of_x) (z_len : mg "len" = none) (z_range : mg "range" = none) (hs : ∀ ds r, S_others ds r → Sat K (t_others K) (entry N_others ds) (fun _ => r = .none) r) (hl : ∀ ds r, S_others ds r → ds.length = P_others.length) : FnOk P w K mg base CX0 3 f fd P_others (FnSp K S_others) := by
  obtain ⟨f_prices_of, fd_prices_of, G_prices_of, g_prices_of, k_prices_of, b_prices_of⟩ := C_prices_of
  obtain ⟨f_powers_of_x, fd_powers_of_x, G_powers_of_x, g_powers_of_x, k_powers_of_x, b_powers_of_x⟩ := C_powers_of_x
  refine fn_ok (t := t_others K) F sc_others hl (by decide) (fun cdv A outer s H E hr => ?_) hs
  exact (pss_cons (ps_set (i := 4) sc_others.nd rfl (Or.inl rfl) (pe_call G_prices_of (hr.mono (by decide)) (by rfl) g_prices_of k_prices_of b_prices_of .nil pass0 (pa_cons (pv 1) pa_nil)))
      (pss_cons (ps_set (i := 5) sc_others.nd rfl (Or.inl rfl) (pe_call G_powers_of_x (hr.mono (by decide)) (by rfl) g_powers_of_x k_powers_of_x b_powers_of_x .nil pass0 (pa_cons (pv 0) (pa_cons (pe_callB call_len_seq (by rfl) z_len PySem.boot_len (pa_cons (pv 1) pa_nil)) pa_nil))))
      (pss_cons (ps_set (i := 6) sc_others.nd rfl (Or.inl rfl) (pe_lst pa_nil))
      (pss_cons (ps_set (i := 7) sc_others.nd rfl (Or.inl rfl) pe_int)
      (pss_cons (ps_set (i := 8) sc_others.nd rfl (Or.inl rfl) pe_int)
      (pss_cons (ps_for PassesOwn.never rfl (pi_range1 (by rfl) z_range (pa_cons (pe_callB call_len_seq (by rfl) z_len PySem.boot_len (pa_cons (pv 2) pa_nil)) pa_nil)) (pg_name (i := 9) sc_others.nd rfl (Or.inl rfl)) (pss_cons (ps_set (i := 10) sc_others.nd rfl (Or.inl rfl) (pe_ix ix_list (pv 2) (pv 9) (fun _ _ => rfl)))
      (pss_cons (ps_set (i := 11) sc_others.nd rfl (Or.inl rfl) (pe_ix ix_list (pe_ix ix_list (pv 3) (pe_op op_add (pv 9) pe_int) (fun _ _ => rfl)) (pe_op op_xor (pv 7) (pe_op op_mul (pe_ix ix_list (pv 5) (pv 9) (fun _ _ => rfl)) (pe_op op_sub pe_int (pv 10)))) (fun _ _ => rfl)))
      (pss_cons (ps_expr (pe_bm PySem.F.plainAttrs_list PySem.F.slot_list_append PySem.F.type_list_append mt_append (pv 6) (pa_cons (pe_ifExp (pt_cmpR op_isN (pv 11) pe_non (nomark _)) pe_non (pe_op op_add (pe_op op_add (pv 8) (pe_ix ix_tup (pe_ix ix_list (pv 4) (pv 9) (fun _ _ => rfl)) (pe_op op_sub pe_int (pv 10)) (fun _ _ => rfl))) (pv 11))) pa_nil)))
      (pss_cons (ps_aug (i := 8) sc_others.nd rfl (Or.inl rfl) (pe_ix ix_tup (pe_ix ix_list (pv 4) (pv 9) (fun _ _ => rfl)) (pv 10) (fun _ _ => rfl)) ip_add)
      (pss_cons (ps_set (i := 7) sc_others.nd rfl (Or.inl rfl) (pe_op op_xor (pv 7) (pe_op op_mul (pe_ix ix_list (pv 5) (pv 9) (fun _ _ => rfl)) (pv 10))))
      pss_nil))))))
      (pss_cons (ps_ret (pv 6))
      pss_nil)))))))
abbrev s_check_nearest : Stmt := topS 29
theorem sc_check_nearest : FnScope N_check_nearest P_check_nearest (defScope s_check_nearest) := ⟨rfl, rfl, rfl, by decide +kernel, rfl, by decide +kernel, by decide +kernel⟩
theorem ok_check_nearest {f : Addr} {fd : FuncData} (F : Fun K "check_nearest" "check_nearest" s_check_nearest f fd) (C_check_rows : Cal P w K mg base 3 "check_rows" P_check_rows S_check_rows) (C_rest_of : Cal P w K mg base 2 "rest_of" P_rest_of S_rest_of) (C_price : Cal P w K mg base 1 "price" P_price S_price) (C_is_bound : Cal P w K mg base 3 "is_bound" P_is_bound S_is_bound) (C_prices_of : Cal P w K mg base 1 "prices_of" P_prices_of S_prices_of) (C_others : Cal P w K mg base 3 "others" P_others S_others) (z_len : mg "len" = none) (z_all : mg "all" = none) (z_range : mg "range" = none) (hs : ∀ ds r, S_check_nearest ds r → Sat K (t_check_nearest K) (entry N_check_nearest ds) (fun _ => r = .none) r) (hl : ∀ ds r, S_check_nearest ds r → ds.length = P_check_nearest.length) : FnOk P w K mg base CX0 4 f fd P_check_nearest (FnSp K S_check_nearest) := by
  obtain ⟨f_check_rows, fd_check_rows, G_check_rows, g_check_rows, k_check_rows, b_check_rows⟩ := C_check_rows
  obtain ⟨f_rest_of, fd_rest_of, G_rest_of, g_rest_of, k_rest_of, b_rest_of⟩ := C_rest_of
  obtain ⟨f_price, fd_price, G_price, g_price, k_price, b_price⟩ := C_price
  obtain ⟨f_is_bound, fd_is_bound, G_is_bound, g_is_bound, k_is_bound, b_is_bound⟩ := C_is_bound
  obtain ⟨f_prices_of, fd_prices_of, G_prices_of, g_prices_of, k_prices_of, b_prices_of⟩ := C_prices_of
  obtain ⟨f_others, fd_others, G_others, g_others, k_others, b_others⟩ := C_others
  refine fn_ok (t := t_check_nearest K) F sc_check_nearest hl (by decide) (fun cdv A outer s H E hr => ?_) hs
  exact (pss_cons (ps_set (i := 5) sc_check_nearest.nd rfl (Or.inl rfl) (pe_callB call_len_seq (by rfl) z_len PySem.boot_len (pa_cons (pv 1) pa_nil)))
      (pss_cons (ps_expr (pe_call G_check_rows (hr.mono (by decide)) (by rfl) g_check_rows k_check_rows b_check_rows .nil pass0 (pa_cons (pv 0) (pa_cons (pv 5) pa_nil))))
      (pss_cons (ps_if (PW.pt (pw_or (pt_cmpR op_ne (pe_callB call_len_seq (by rfl) z_len PySem.boot_len (pa_cons (pv 2) pa_nil)) (pv 5) (nomark _)) (pw_or (pt_not (pt_val (pe_callB (cr_all rfl) (by rfl) z_all (by decide +kernel) (pa_cons (pe_lc (own := [("bit", 7)]) (g := gName 7) (tt := tYes) (by rfl) sc_check_nearest.nd (pi_list (pv 2)) (blkOk_by (own := [("bit", 7)]) (N := N_check_nearest) (sc := defScope s_check_nearest) (by decide +kernel)) (fun _ _ _ _ _ => pg_name (i := 7) sc_check_nearest.nd rfl (Or.inl rfl)) (fun _ _ _ _ _ => pts_nil) (fun _ _ _ _ _ => (pe_cmpR op_in_seq (pv 7) (pe_tup (pa_cons pe_int (pa_cons pe_int pa_nil))) (by rfl)))) pa_nil)))) (pw_or1 (pt_cmpR op_ne (pe_call G_rest_of (hr.mono (by decide)) (by rfl) g_rest_of k_rest_of b_rest_of .nil pass0 (pa_cons (pv 0) (pa_cons (pv 2) pa_nil))) pe_int (nomark _)))))) (pss_cons (ps_ret pe_bl)
      pss_nil) pss_nil)
      (pss_cons (ps_if (PW.pt (pw_or (pt_cmpR op_ne (pe_call G_price (hr.mono (by decide)) (by rfl) g_price k_price b_price .nil pass0 (pa_cons (pv 1) (pa_cons (pv 2) pa_nil))) (pv 3) (nomark _)) (pw_or1 (pt_not (pt_val (pe_call G_is_bound (hr.mono (by decide)) (by rfl) g_is_bound k_is_bound b_is_bound .nil pass0 (pa_cons (pv 0) (pa_cons (pe_call G_prices_of (hr.mono (by decide)) (by rfl) g_prices_of k_prices_of b_prices_of .nil pass0 (pa_cons (pv 1) pa_nil)) (pa_cons (pv 4) pa_nil))))))))) (pss_cons (ps_ret pe_bl)
      pss_nil) pss_nil)
      (pss_cons (ps_set (i := 6) sc_check_nearest.nd rfl (Or.inr rfl) (pe_call G_others (hr.mono (by decide)) (by rfl) g_others k_others b_others .nil pass0 (pa_cons (pv 0) (pa_cons (pv 1) (pa_cons (pv 2) (pa_cons (pv 4) pa_nil))))))
      (pss_cons (ps_ret (pe_callB (cr_all rfl) (by rfl) z_all (by decide +kernel) (pa_cons (pe_lc (own := [("k", 8)]) (g := gName 8) (tt := tYes) (by rfl) sc_check_nearest.nd (pi_range1 (by rfl) z_range (pa_cons (pv 5) pa_nil)) (blkOk_by (own := [("k", 8)]) (N := N_check_nearest) (sc := defScope s_check_nearest) (by decide +kernel)) (fun _ _ _ _ _ => pg_name (i := 8) sc_check_nearest.nd rfl (Or.inl rfl)) (fun _ _ _ _ _ => pts_nil) (fun _ _ _ _ _ => (pe_or (pe_cmpR op_isN (pe_ix ix_list (pv 6) (pv 8) (fun _ _ => rfl)) pe_non (nomark _)) (pe_one (pe_cmpR op_ge (pe_ix ix_list (pv 6) (pv 8) (fun _ _ => rfl)) (pe_op op_add (pv 3) (pe_ix ix_list (pv 2) (pv 8) (fun _ _ => rfl))) (nomark _)))))) pa_nil)))
      pss_nil))))))
abbrev s_margin : Stmt := topS 30
theorem sc_margin : FnScope N_margin P_margin (defScope s_margin) := ⟨rfl, rfl, rfl, by decide +kernel, rfl, by decide +kernel, by decide +kernel⟩
theorem ok_margin {f : Addr} {fd : FuncData} (F : Fun K "margin" "margin" s_margin f fd) (C_nearest : Cal P w K mg base 4 "nearest" P_nearest S_nearest) (C_others : Cal P w K mg base 3 "others" P_others S_others) (z_min : mg "min" = none) (hs : ∀ ds r, S_margin ds r → Sat K (t_margin K) (entry N_margin ds) (fun _ => r = .none) r) (hl : ∀ ds r, S_margin ds r → ds.length = P_margin.length) : FnOk P w K mg base CX0 5 f fd P_margin (FnSp K S_margin) := by
  obtain ⟨f_nearest, fd_nearest, G_nearest, g_nearest, k_nearest, b_nearest⟩ := C_nearest
  obtain ⟨f_others, fd_others, G_others, g_others, k_others, b_others⟩ := C_others
  refine fn_ok (t := t_margin K) F sc_margin hl (by decide) (fun cdv A outer s H E hr => ?_) hs
  exact (pss_cons (ps_asg (pe_call G_nearest (hr.mono (by decide)) (by rfl) g_nearest k_nearest b_nearest .nil pass0 (pa_cons (pv 0) (pa_cons (pv 1) pa_nil))) (pg_tup (by rfl) (pgs_cons (pg_name (i := 2) sc_margin.nd rfl (Or.inl rfl)) (pgs_cons (pg_name (i := 3) sc_margin.nd rfl (Or.inl rfl)) (pgs_cons (pg_name (i := 4) sc_margin.nd rfl (Or.inl rfl)) pgs_nil)))))
      (pss_cons (ps_ret (pe_op op_sub (pe_callB (cr_min rfl) (by rfl) z_min (by decide +kernel) (pa_cons (pe_lc (own := [("other", 5)]) (g := gName 5) (tt := (tTest (tOp rIsnt (tVar 5) (tC .non)))) (by rfl) sc_margin.nd (pi_list (pe_call G_others (hr.mono (by decide)) (by rfl) g_others k_others b_others .nil pass0 (pa_cons (pv 0) (pa_cons (pv 1) (pa_cons (pv 2) (pa_cons (pv 4) pa_nil)))))) (blkOk_by (own := [("other", 5)]) (N := N_margin) (sc := defScope s_margin) (by decide +kernel)) (fun _ _ _ _ _ => pg_name (i := 5) sc_margin.nd rfl (Or.inl rfl)) (fun _ _ _ _ _ => (pts_one (pt_cmpR op_notN (pv 5) pe_non (nomark _)))) (fun _ _ _ _ _ => (pv 5))) pa_nil)) (pv 3)))
      pss_nil))
abbrev s_law_draws : Stmt := topS 32
theorem sc_law_draws : FnScope N_law_draws P_law_draws (defScope s_law_draws) := ⟨rfl, rfl, rfl, by decide +kernel, rfl, by decide +kernel, by decide +kernel⟩
theorem ok_law_draws {f : Addr} {fd : FuncData} (F : Fun K "_law_draws" "_law_draws" s_law_draws f fd) (z_range : mg "range" = none) (z_min : mg "min" = none) (z_len : mg "len" = none) (z_abs : mg "abs" = none) (z_int : mg "int" = none) (hs : ∀ ds r, S_law_draws ds r → Sat K (t_law_draws K) (entry N_law_draws ds) (fun _ => r = .none) r) (hl : ∀ ds r, S_law_draws ds r → ds.length = P_law_draws.length) : FnOk P w K mg base CX0 1 f fd P_law_draws (FnSp K S_law_draws) := by
  refine fn_ok (t := t_law_draws K) F sc_law_draws hl (by decide) (fun cdv A outer s H E hr => ?_) hs
  exact (pss_cons (ps_set (i := 1) sc_law_draws.nd rfl (Or.inl rfl) (pe_lst pa_nil))
      (pss_cons (ps_for PassesOwn.never rfl (pi_range1 (by rfl) z_range (pa_cons (pe_callB (call_min2 rfl) (by rfl) z_min (by decide +kernel) (pa_cons pe_int (pa_cons (pe_callB call_len_seq (by rfl) z_len PySem.boot_len (pa_cons (pv 0) pa_nil)) pa_nil))) pa_nil)) (pg_name (i := 2) sc_law_draws.nd rfl (Or.inl rfl)) (pss_cons (ps_set (i := 3) sc_law_draws.nd rfl (Or.inl rfl) (pe_callB call_abs (by rfl) z_abs (by decide +kernel) (pa_cons (pe_ix ix_list (pv 0) (pv 2) (fun _ _ => rfl)) pa_nil)))
      (pss_cons (ps_if (pt_cmpR op_ge (pv 3) (pe_op op_pow pe_int pe_int) (nomark _)) (pss_cons (ps_for PassesOwn.never rfl (pi_range1 (by rfl) z_range (pa_cons pe_int pa_nil)) (pg_name (i := 4) sc_law_draws.nd rfl (Or.inl rfl)) (pss_cons (ps_if (pt_cmpR op_gt (pv 3) pe_int (nomark _)) (pss_cons (ps_expr (pe_bm PySem.F.plainAttrs_list PySem.F.slot_list_append PySem.F.type_list_append mt_append (pv 1) (pa_cons (pe_op op_modN (pe_callTy call_int1 (by rfl) z_int (by decide +kernel) (pa_cons (pv 3) pa_nil)) pe_int) pa_nil)))
      (pss_cons (ps_set (i := 3) sc_law_draws.nd rfl (Or.inl rfl) (pe_op op_fdivN (pv 3) pe_int))
      pss_nil)) pss_nil)
      pss_nil))
      pss_nil) (pss_cons (ps_set (i := 5) sc_law_draws.nd rfl (Or.inl rfl) (pe_op op_modN (pe_callTy call_int1 (by rfl) z_int (by decide +kernel) (pa_cons (pe_op op_add (pe_op op_mul (pv 3) pe_int) (pe_op op_mul (pe_op op_add (pv 2) pe_int) pe_int)) pa_nil)) pe_int))
      (pss_cons (ps_set (i := 5) sc_law_draws.nd rfl (Or.inl rfl) (pe_op op_modN (pe_callTy call_int1 (by rfl) z_int (by decide +kernel) (pa_cons (pe_op op_add (pe_op op_add (pe_op op_mul (pv 5) pe_int) (pe_op op_mul pe_int (pv 2))) pe_int) pa_nil)) pe_int))
      (pss_cons (ps_expr (pe_bm PySem.F.plainAttrs_list PySem.F.slot_list_append PySem.F.type_list_append mt_append (pv 1) (pa_cons (pe_op op_modN (pe_callTy call_int1 (by rfl) z_int (by decide +kernel) (pa_cons (pv 5) pa_nil)) pe_int) pa_nil)))
      (pss_cons (ps_expr (pe_bm PySem.F.plainAttrs_list PySem.F.slot_list_append PySem.F.type_list_append mt_append (pv 1) (pa_cons (pe_op op_modN (pe_callTy call_int1 (by rfl) z_int (by decide +kernel) (pa_cons (pe_op op_fdivN (pv 5) pe_int) pa_nil)) pe_int) pa_nil)))
      pss_nil)))))
      pss_nil)))
      (pss_cons (ps_ret (pv 1))
      pss_nil)))
abbrev s_law_mix : Stmt := topS 33
theorem sc_law_mix : FnScope N_law_mix P_law_mix (defScope s_law_mix) := ⟨rfl, rfl, rfl, by decide +kernel, rfl, by decide +kernel, by decide +kernel⟩
theorem ok_law_mix {f : Addr} {fd : FuncData} (F : Fun K "_law_mix" "_law_mix" s_law_mix f fd) (z_len : mg "len" = none) (z_int : mg "int" = none) (hs : ∀ ds r, S_law_mix ds r → Sat K (t_law_mix K) (entry N_law_mix ds) (fun _ => r = .none) r) (hl : ∀ ds r, S_law_mix ds r → ds.length = P_law_mix.length) : FnOk P w K mg base CX0 1 f fd P_law_mix (FnSp K S_law_mix) := by
  refine fn_ok (t := t_law_mix K) F sc_law_mix hl (by decide) (fun cdv A outer s H E hr => ?_) hs
  exact (pss_cons (ps_set (i := 3) sc_law_mix.nd rfl (Or.inl rfl) pe_int)
      (pss_cons (ps_if (pt_cmpR op_gt (pe_callB call_len_seq (by rfl) z_len PySem.boot_len (pa_cons (pv 0) pa_nil)) pe_int (nomark _)) (pss_cons (ps_set (i := 3) sc_law_mix.nd rfl (Or.inl rfl) (pe_ix ix_list (pv 0) (pe_op op_modN (pe_callTy call_int1 (by rfl) z_int (by decide +kernel) (pa_cons (pv 1) pa_nil)) (pe_callB call_len_seq (by rfl) z_len PySem.boot_len (pa_cons (pv 0) pa_nil))) (fun _ _ => rfl)))
      pss_nil) pss_nil)
      (pss_cons (ps_if (pt_cmpR op_lt (pv 1) (pe_callB call_len_seq (by rfl) z_len PySem.boot_len (pa_cons (pv 0) pa_nil)) (nomark _)) (pss_cons (ps_ret (pe_op op_modN (pe_callTy call_int1 (by rfl) z_int (by decide +kernel) (pa_cons (pv 3) pa_nil)) (pv 2)))
      pss_nil) pss_nil)
      (pss_cons (ps_ret (pe_op op_modN (pe_callTy call_int1 (by rfl) z_int (by decide +kernel) (pa_cons (pe_op op_fdivN (pe_callTy call_int1 (by rfl) z_int (by decide +kernel) (pa_cons (pe_op op_add (pe_op op_mul (pv 3) pe_int) (pe_op op_mul (pv 1) pe_int)) pa_nil)) pe_int) pa_nil)) (pv 2)))
      pss_nil))))
abbrev s_law_powers : Stmt := topS 34
theorem sc_law_powers : FnScope N_law_powers P_law_powers (defScope s_law_powers) := ⟨rfl, rfl, rfl, by decide +kernel, rfl, by decide +kernel, by decide +kernel⟩
theorem ok_law_powers {f : Addr} {fd : FuncData} (F : Fun K "_law_powers" "_law_powers" s_law_powers f fd) (z_range : mg "range" = none) (hs : ∀ ds r, S_law_powers ds r → Sat K (t_law_powers K) (entry N_law_powers ds) (fun _ => r = .none) r) (hl : ∀ ds r, S_law_powers ds r → ds.length = P_law_powers.length) : FnOk P w K mg base CX0 1 f fd P_law_powers (FnSp K S_law_powers) := by
  refine fn_ok (t := t_law_powers K) F sc_law_powers hl (by decide) (fun cdv A outer s H E hr => ?_) hs
  exact (pss_cons (ps_set (i := 3) sc_law_powers.nd rfl (Or.inl rfl) (pe_lst (pa_cons pe_int pa_nil)))
      (pss_cons (ps_for PassesOwn.never rfl (pi_range1 (by rfl) z_range (pa_cons (pv 2) pa_nil)) (pg_name (i := 4) sc_law_powers.nd rfl (Or.inl rfl)) (pss_cons (ps_set (i := 5) sc_law_powers.nd rfl (Or.inl rfl) (pe_op op_mul pe_int (pe_ix ix_list (pv 3) (pe_un un_neg pe_int) (fun _ _ => rfl))))
      (pss_cons (ps_if (pt_cmpR op_eq (pe_op op_and (pe_op op_shr (pv 5) (pv 1)) pe_int) pe_int (nomark _)) (pss_cons (ps_set (i := 5) sc_law_powers.nd rfl (Or.inl rfl) (pe_op op_xor (pv 5) (pv 0)))
      pss_nil) pss_nil)
      (pss_cons (ps_expr (pe_bm PySem.F.plainAttrs_list PySem.F.slot_list_append PySem.F.type_list_append mt_append (pv 3) (pa_cons (pv 5) pa_nil)))
      pss_nil))))
      (pss_cons (ps_ret (pv 3))
      pss_nil)))
abbrev s_law_table : Stmt := topS 35
theorem sc_law_table : FnScope N_law_table P_law_table (defScope s_law_table) := ⟨rfl, rfl, rfl, by decide +kernel, rfl, by decide +kernel, by decide +kernel⟩
theorem ok_law_table {f : Addr} {fd : FuncData} (F : Fun K "_law_table" "_law_table" s_law_table f fd) (z_range : mg "range" = none) (z_len : mg "len" = none) (hs : ∀ ds r, S_law_table ds r → Sat K (t_law_table K) (entry N_law_table ds) (fun _ => r = .none) r) (hl : ∀ ds r, S_law_table ds r → ds.length = P_law_table.length) : FnOk P w K mg base CX0 1 f fd P_law_table (FnSp K S_law_table) := by
  refine fn_ok (t := t_law_table K) F sc_law_table hl (by decide) (fun cdv A outer s H E hr => ?_) hs
  exact (pss_cons (ps_set (i := 3) sc_law_table.nd rfl (Or.inl rfl) (pe_op op_cat (pe_lst (pa_cons pe_int pa_nil)) (pe_op op_rep (pe_lst (pa_cons pe_non pa_nil)) (pe_op op_sub (pe_op op_shl pe_int (pv 0)) pe_int))))
      (pss_cons (ps_set (i := 4) sc_law_table.nd rfl (Or.inl rfl) (pe_lst (pa_cons (pv 3) pa_nil)))
      (pss_cons (ps_for PassesOwn.never rfl (pi_range3 (by rfl) z_range (pa_cons (pe_op op_sub (pe_callB call_len_seq (by rfl) z_len PySem.boot_len (pa_cons (pv 2) pa_nil)) pe_int) (pa_cons (pe_un un_neg pe_int) (pa_cons (pe_un un_neg pe_int) pa_nil)))) (pg_name (i := 5) sc_law_table.nd rfl (Or.inl rfl)) (pss_cons (ps_set (i := 6) sc_law_table.nd rfl (Or.inl rfl) (pe_lst pa_nil))
      (pss_cons (ps_for PassesOwn.never rfl (pi_range1 (by rfl) z_range (pa_cons (pe_op op_shl pe_int (pv 0)) pa_nil)) (pg_name (i := 7) sc_law_table.nd rfl (Or.inl rfl)) (pss_cons (ps_set (i := 8) sc_law_table.nd rfl (Or.inl rfl) pe_non)
      (pss_cons (ps_for PassesOwn.never rfl (pi_range1 (by rfl) z_range (pa_cons pe_int pa_nil)) (pg_name (i := 9) sc_law_table.nd rfl (Or.inl rfl)) (pss_cons (ps_set (i := 10) sc_law_table.nd rfl (Or.inl rfl) (pe_ix ix_list (pv 3) (pe_op op_xor (pv 7) (pe_op op_mul (pe_ix ix_list (pv 1) (pv 5) (fun _ _ => rfl)) (pv 9))) (fun _ _ => rfl)))
      (pss_cons (ps_if (PW.pt (pw_and (pt_cmpR op_notN (pv 10) pe_non (nomark _)) (pw_and1 (PW.pt (pw_or (pt_cmpR op_isN (pv 8) pe_non (nomark _)) (pw_or1 (pt_cmpR op_lt (pe_op op_add (pv 10) (pe_ix ix_tup (pe_ix ix_list (pv 2) (pv 5) (fun _ _ => rfl)) (pv 9) (fun _ _ => rfl))) (pv 8) (nomark _)))))))) (pss_cons (ps_set (i := 8) sc_law_table.nd rfl (Or.inl rfl) (pe_op op_add (pv 10) (pe_ix ix_tup (pe_ix ix_list (pv 2) (pv 5) (fun _ _ => rfl)) (pv 9) (fun _ _ => rfl))))
      pss_nil) pss_nil)
      pss_nil)))
      (pss_cons (ps_expr (pe_bm PySem.F.plainAttrs_list PySem.F.slot_list_append PySem.F.type_list_append mt_append (pv 6) (pa_cons (pv 8) pa_nil)))
      pss_nil))))
      (pss_cons (ps_set (i := 3) sc_law_table.nd rfl (Or.inl rfl) (pv 6))
      (pss_cons (ps_expr (pe_bm PySem.F.plainAttrs_list PySem.F.slot_list_append PySem.F.type_list_append mt_append (pv 4) (pa_cons (pv 6) pa_nil)))
      pss_nil)))))
      (pss_cons (ps_ret (pe_revL (pv 4)))
      pss_nil))))
abbrev s_law_goes : Stmt := topS 36
theorem sc_law_goes : FnScope N_law_goes P_law_goes (defScope s_law_goes) := ⟨rfl, rfl, rfl, by decide +kernel, rfl, by decide +kernel, by decide +kernel⟩
theorem ok_law_goes {f : Addr} {fd : FuncData} (F : Fun K "_law_goes" "_law_goes" s_law_goes f fd) (z_list : mg "list" = none) (z_range : mg "range" = none) (z_len : mg "len" = none) (z_int : mg "int" = none) (hs : ∀ ds r, S_law_goes ds r → Sat K (t_law_goes K) (entry N_law_goes ds) (fun _ => r = .none) r) (hl : ∀ ds r, S_law_goes ds r → ds.length = P_law_goes.length) : FnOk P w K mg base CX0 1 f fd P_law_goes (FnSp K S_law_goes) := by
  refine fn_ok (t := t_law_goes K) F sc_law_goes hl (by decide) (fun cdv A outer s H E hr => ?_) hs
  exact (pss_cons (ps_set (i := 3) sc_law_goes.nd rfl (Or.inl rfl) (pe_callTy call_list_of (by rfl) z_list (by decide +kernel) (pa_cons (pv 3) pa_nil)))
      (pss_cons (ps_for PassesOwn.never rfl (pi_range2 (by rfl) z_range (pa_cons (pe_callB call_len_seq (by rfl) z_len PySem.boot_len (pa_cons (pv 3) pa_nil)) (pa_cons (pe_callB call_len_seq (by rfl) z_len PySem.boot_len (pa_cons (pv 2) pa_nil)) pa_nil))) (pg_name (i := 5) sc_law_goes.nd rfl (Or.inl rfl)) (pss_cons (ps_set (i := 6) sc_law_goes.nd rfl (Or.inl rfl) (pe_ix ix_list (pe_ix ix_list (pv 0) (pe_op op_add (pv 5) pe_int) (fun _ _ => rfl)) (pv 4) (fun _ _ => rfl)))
      (pss_cons (ps_set (i := 7) sc_law_goes.nd rfl (Or.inl rfl) (pe_callTy call_int1 (by rfl) z_int (by decide +kernel) (pa_cons (pe_or (pe_cmpR op_isN (pv 6) pe_non (nomark _)) (pe_one (pe_cmpR op_ne (pe_op op_add (pv 6) (pe_ix ix_tup (pe_ix ix_list (pv 2) (pv 5) (fun _ _ => rfl)) pe_int (fun _ _ => rfl))) (pe_ix ix_list (pe_ix ix_list (pv 0) (pv 5) (fun _ _ => rfl)) (pv 4) (fun _ _ => rfl)) (nomark _)))) pa_nil)))
      (pss_cons (ps_expr (pe_bm PySem.F.plainAttrs_list PySem.F.slot_list_append PySem.F.type_list_append mt_append (pv 3) (pa_cons (pv 7) pa_nil)))
      (pss_cons (ps_set (i := 4) sc_law_goes.nd rfl (Or.inl rfl) (pe_op op_xor (pv 4) (pe_op op_mul (pe_ix ix_list (pv 1) (pv 5) (fun _ _ => rfl)) (pv 7))))
      pss_nil)))))
      (pss_cons (ps_ret (pv 3))
      pss_nil)))
abbrev s_law_least : Stmt := topS 37
theorem sc_law_least : FnScope N_law_least P_law_least (defScope s_law_least) := ⟨rfl, rfl, rfl, by decide +kernel, rfl, by decide +kernel, by decide +kernel⟩
theorem ok_law_least {f : Addr} {fd : FuncData} (F : Fun K "_law_least" "_law_least" s_law_least f fd) (C_law_table : Cal P w K mg base 1 "_law_table" P_law_table S_law_table) (C_law_goes : Cal P w K mg base 1 "_law_goes" P_law_goes S_law_goes) (z_range : mg "range" = none) (hs : ∀ ds r, S_law_least ds r → Sat K (t_law_least K) (entry N_law_least ds) (fun _ => r = .none) r) (hl : ∀ ds r, S_law_least ds r → ds.length = P_law_least.length) : FnOk P w K mg base CX0 2 f fd P_law_least (FnSp K S_law_least) := by
  obtain ⟨f_law_table, fd_law_table, G_law_table, g_law_table, k_law_table, b_law_table⟩ := C_law_table
  obtain ⟨f_law_goes, fd_law_goes, G_law_goes, g_law_goes, k_law_goes, b_law_goes⟩ := C_law_goes
  refine fn_ok (t := t_law_least K) F sc_law_least hl (by decide) (fun cdv A outer s H E hr => ?_) hs
  exact (pss_cons (ps_set (i := 3) sc_law_least.nd rfl (Or.inl rfl) (pe_op op_rep (pe_lst (pa_cons (pe_tup (pa_cons pe_int (pa_cons pe_int pa_nil))) pa_nil)) (pv 2)))
      (pss_cons (ps_set (i := 4) sc_law_least.nd rfl (Or.inl rfl) (pe_call G_law_table (hr.mono (by decide)) (by rfl) g_law_table k_law_table b_law_table .nil pass0 (pa_cons (pv 0) (pa_cons (pv 1) (pa_cons (pv 3) pa_nil)))))
      (pss_cons (ps_set (i := 5) sc_law_least.nd rfl (Or.inl rfl) pe_non)
      (pss_cons (ps_for PassesOwn.never rfl (pi_range1 (by rfl) z_range (pa_cons (pv 2) pa_nil)) (pg_name (i := 6) sc_law_least.nd rfl (Or.inl rfl)) (pss_cons (ps_set (i := 7) sc_law_least.nd rfl (Or.inl rfl) (pe_ix ix_list (pe_ix ix_list (pv 4) (pe_op op_add (pv 6) pe_int) (fun _ _ => rfl)) (pe_ix ix_list (pv 1) (pv 6) (fun _ _ => rfl)) (fun _ _ => rfl)))
      (pss_cons (ps_if (PW.pt (pw_and (pt_cmpR op_notN (pv 7) pe_non (nomark _)) (pw_and1 (PW.pt (pw_or (pt_cmpR op_isN (pv 5) pe_non (nomark _)) (pw_or1 (pt_cmpR op_le (pe_op op_add (pv 7) pe_int) (pe_ix ix_tup (pv 5) pe_int (fun _ _ => rfl)) (nomark _)))))))) (pss_cons (ps_set (i := 5) sc_law_least.nd rfl (Or.inl rfl) (pe_tup (pa_cons (pe_op op_add (pv 7) pe_int) (pa_cons (pv 6) pa_nil))))
      pss_nil) pss_nil)
      pss_nil)))
      (pss_cons (ps_set (i := 8) sc_law_least.nd rfl (Or.inl rfl) (pe_ix ix_tup (pv 5) pe_int (fun _ _ => rfl)))
      (pss_cons (ps_ret (pe_tup (pa_cons (pe_ix ix_tup (pv 5) pe_int (fun _ _ => rfl)) (pa_cons (pe_call G_law_goes (hr.mono (by decide)) (by rfl) g_law_goes k_law_goes b_law_goes .nil pass0 (pa_cons (pv 4) (pa_cons (pv 1) (pa_cons (pv 3) (pa_cons (pe_op op_cat (pe_op op_rep (pe_lst (pa_cons pe_int pa_nil)) (pv 8)) (pe_lst (pa_cons pe_int pa_nil))) (pa_cons (pe_ix ix_list (pv 1) (pv 8) (fun _ _ => rfl)) pa_nil)))))) pa_nil))))
      pss_nil))))))
abbrev s_law_profile : Stmt := topS 38
theorem sc_law_profile : FnScope N_law_profile P_law_profile (defScope s_law_profile) := ⟨rfl, rfl, rfl, by decide +kernel, rfl, by decide +kernel, by decide +kernel⟩
theorem ok_law_profile {f : Addr} {fd : FuncData} (F : Fun K "_law_profile" "_law_profile" s_law_profile f fd) (z_range : mg "range" = none) (z_list : mg "list" = none) (hs : ∀ ds r, S_law_profile ds r → Sat K (t_law_profile K) (entry N_law_profile ds) (fun _ => r = .none) r) (hl : ∀ ds r, S_law_profile ds r → ds.length = P_law_profile.length) : FnOk P w K mg base CX0 1 f fd P_law_profile (FnSp K S_law_profile) := by
  refine fn_ok (t := t_law_profile K) F sc_law_profile hl (by decide) (fun cdv A outer s H E hr => ?_) hs
  exact (pss_cons (ps_set (i := 3) sc_law_profile.nd rfl (Or.inl rfl) (pe_op op_rep (pe_lst (pa_cons pe_non pa_nil)) (pe_op op_shl pe_int (pv 0))))
      (pss_cons (ps_asg pe_int (pg_sub (pv 3) pe_int set_list))
      (pss_cons (ps_set (i := 4) sc_law_profile.nd rfl (Or.inl rfl) (pe_lst pa_nil))
      (pss_cons (ps_for PassesOwn.never rfl (pi_range2 (by rfl) z_range (pa_cons pe_int (pa_cons (pv 2) pa_nil))) (pg_name (i := 5) sc_law_profile.nd rfl (Or.inl rfl)) (pss_cons (ps_set (i := 6) sc_law_profile.nd rfl (Or.inl rfl) (pe_callTy call_list_of (by rfl) z_list (by decide +kernel) (pa_cons (pv 3) pa_nil)))
      (pss_cons (ps_for PassesOwn.never rfl (pi_range1 (by rfl) z_range (pa_cons (pe_op op_shl pe_int (pv 0)) pa_nil)) (pg_name (i := 7) sc_law_profile.nd rfl (Or.inl rfl)) (pss_cons (ps_set (i := 8) sc_law_profile.nd rfl (Or.inl rfl) (pe_ix ix_list (pv 6) (pe_op op_xor (pv 7) (pe_ix ix_list (pv 1) (pv 5) (fun _ _ => rfl))) (fun _ _ => rfl)))
      (pss_cons (ps_if (PW.pt (pw_and (pt_cmpR op_notN (pv 8) pe_non (nomark _)) (pw_and1 (PW.pt (pw_or (pt_cmpR op_isN (pe_ix ix_list (pv 3) (pv 7) (fun _ _ => rfl)) pe_non (nomark _)) (pw_or1 (pt_cmpR op_lt (pe_op op_add (pv 8) pe_int) (pe_ix ix_list (pv 3) (pv 7) (fun _ _ => rfl)) (nomark _)))))))) (pss_cons (ps_asg (pe_op op_add (pv 8) pe_int) (pg_sub (pv 3) (pv 7) set_list))
      pss_nil) pss_nil)
      pss_nil)))
      (pss_cons (ps_if (PW.pt (pw_and (pt_cmpR op_notN (pe_ix ix_list (pv 3) pe_int (fun _ _ => rfl)) pe_non (nomark _)) (pw_and1 (PW.pt (pw_or (pt_cmpR (op_eqD hr.units) (pv 4) (pe_lst pa_nil) (nomark _)) (pw_or1 (pt_cmpR op_lt (pe_ix ix_list (pv 3) pe_int (fun _ _ => rfl)) (pe_ix ix_tup (pe_ix ix_list (pv 4) (pe_un un_neg pe_int) (fun _ _ => rfl)) pe_int (fun _ _ => rfl)) (nomark _)))))))) (pss_cons (ps_expr (pe_bm PySem.F.plainAttrs_list PySem.F.slot_list_append PySem.F.type_list_append mt_append (pv 4) (pa_cons (pe_tup (pa_cons (pe_op op_add (pv 5) pe_int) (pa_cons (pe_ix ix_list (pv 3) pe_int (fun _ _ => rfl)) pa_nil))) pa_nil)))
      pss_nil) pss_nil)
      pss_nil))))
      (pss_cons (ps_ret (pv 4))
      pss_nil)))))
abbrev s_law_margin : Stmt := topS 39
theorem sc_law_margin : FnScope N_law_margin P_law_margin (defScope s_law_margin) := ⟨rfl, rfl, rfl, by decide +kernel, rfl, by decide +kernel, by decide +kernel⟩
theorem ok_law_margin {f : Addr} {fd : FuncData} (F : Fun K "_law_margin" "_law_margin" s_law_margin f fd) (z_range : mg "range" = none) (z_len : mg "len" = none) (hs : ∀ ds r, S_law_margin ds r → Sat K (t_law_margin K) (entry N_law_margin ds) (fun _ => r = .none) r) (hl : ∀ ds r, S_law_margin ds r → ds.length = P_law_margin.length) : FnOk P w K mg base CX0 1 f fd P_law_margin (FnSp K S_law_margin) := by
  refine fn_ok (t := t_law_margin K) F sc_law_margin hl (by decide) (fun cdv A outer s H E hr => ?_) hs
  exact (pss_cons (ps_set (i := 4) sc_law_margin.nd rfl (Or.inl rfl) pe_non)
      (pss_cons (ps_set (i := 5) sc_law_margin.nd rfl (Or.inl rfl) pe_int)
      (pss_cons (ps_set (i := 6) sc_law_margin.nd rfl (Or.inl rfl) pe_int)
      (pss_cons (ps_for PassesOwn.never rfl (pi_range1 (by rfl) z_range (pa_cons (pe_callB call_len_seq (by rfl) z_len PySem.boot_len (pa_cons (pv 3) pa_nil)) pa_nil)) (pg_name (i := 7) sc_law_margin.nd rfl (Or.inl rfl)) (pss_cons (ps_set (i := 8) sc_law_margin.nd rfl (Or.inl rfl) (pe_op op_sub pe_int (pe_ix ix_list (pv 3) (pv 7) (fun _ _ => rfl))))
      (pss_cons (ps_set (i := 9) sc_law_margin.nd rfl (Or.inl rfl) (pe_ix ix_list (pe_ix ix_list (pv 0) (pe_op op_add (pv 7) pe_int) (fun _ _ => rfl)) (pe_op op_xor (pv 5) (pe_op op_mul (pe_ix ix_list (pv 1) (pv 7) (fun _ _ => rfl)) (pv 8))) (fun _ _ => rfl)))
      (pss_cons (ps_if (PW.pt (pw_and (pt_cmpR op_notN (pv 9) pe_non (nomark _)) (pw_and1 (PW.pt (pw_or (pt_cmpR op_isN (pv 4) pe_non (nomark _)) (pw_or1 (pt_cmpR op_lt (pe_op op_add (pe_op op_add (pv 6) (pe_ix ix_tup (pe_ix ix_list (pv 2) (pv 7) (fun _ _ => rfl)) (pv 8) (fun _ _ => rfl))) (pv 9)) (pv 4) (nomark _)))))))) (pss_cons (ps_set (i := 4) sc_law_margin.nd rfl (Or.inl rfl) (pe_op op_add (pe_op op_add (pv 6) (pe_ix ix_tup (pe_ix ix_list (pv 2) (pv 7) (fun _ _ => rfl)) (pv 8) (fun _ _ => rfl))) (pv 9)))
      pss_nil) pss_nil)
      (pss_cons (ps_set (i := 6) sc_law_margin.nd rfl (Or.inl rfl) (pe_op op_add (pv 6) (pe_ix ix_tup (pe_ix ix_list (pv 2) (pv 7) (fun _ _ => rfl)) (pe_ix ix_list (pv 3) (pv 7) (fun _ _ => rfl)) (fun _ _ => rfl))))
      (pss_cons (ps_set (i := 5) sc_law_margin.nd rfl (Or.inl rfl) (pe_op op_xor (pv 5) (pe_op op_mul (pe_ix ix_list (pv 1) (pv 7) (fun _ _ => rfl)) (pe_ix ix_list (pv 3) (pv 7) (fun _ _ => rfl)))))
      pss_nil))))))
      (pss_cons (ps_ret (pe_op op_sub (pv 4) (pv 6)))
      pss_nil)))))
abbrev s_law_received : Stmt := topS 40
theorem sc_law_received : FnScope N_law_received P_law_received (defScope s_law_received) := ⟨rfl, rfl, rfl, by decide +kernel, rfl, by decide +kernel, by decide +kernel⟩
theorem ok_law_received {f : Addr} {fd : FuncData} (F : Fun K "_law_received" "_law_received" s_law_received f fd) (C_law_mix : Cal P w K mg base 1 "_law_mix" P_law_mix S_law_mix) (z_range : mg "range" = none) (z_int : mg "int" = none) (hs : ∀ ds r, S_law_received ds r → Sat K (t_law_received K) (entry N_law_received ds) (fun _ => r = .none) r) (hl : ∀ ds r, S_law_received ds r → ds.length = P_law_received.length) : FnOk P w K mg base CX0 2 f fd P_law_received (FnSp K S_law_received) := by
  obtain ⟨f_law_mix, fd_law_mix, G_law_mix, g_law_mix, k_law_mix, b_law_mix⟩ := C_law_mix
  refine fn_ok (t := t_law_received K) F sc_law_received hl (by decide) (fun cdv A outer s H E hr => ?_) hs
  exact (pss_cons (ps_set (i := 4) sc_law_received.nd rfl (Or.inl rfl) (pe_op op_cat (pe_op op_rep (pe_lst (pa_cons pe_int pa_nil)) (pv 1)) (pe_lc (own := [("_law_k", 6)]) (g := gName 6) (tt := tYes) (by rfl) sc_law_received.nd (pi_range1 (by rfl) z_range (pa_cons (pe_op op_sub (pv 3) (pv 1)) pa_nil)) (blkOk_by (own := [("_law_k", 6)]) (N := N_law_received) (sc := defScope s_law_received) (by decide +kernel)) (fun _ _ _ _ _ => pg_name (i := 6) sc_law_received.nd rfl (Or.inl rfl)) (fun _ _ _ _ _ => pts_nil) (fun _ _ _ _ _ => (pe_call G_law_mix (hr.mono (by decide)) (by rfl) g_law_mix k_law_mix b_law_mix .nil pass0 (pa_cons (pv 0) (pa_cons (pe_op op_add pe_int (pv 6)) (pa_cons pe_int pa_nil))))))))
      (pss_cons (ps_set (i := 5) sc_law_received.nd rfl (Or.inr rfl) pe_int)
      (pss_cons (ps_for PassesOwn.never rfl (pi_range2 (by rfl) z_range (pa_cons (pv 1) (pa_cons (pv 3) pa_nil))) (pg_name (i := 6) sc_law_received.nd rfl (Or.inl rfl)) (pss_cons (ps_set (i := 5) sc_law_received.nd rfl (Or.inr rfl) (pe_op op_xor (pv 5) (pe_op op_mul (pe_ix ix_list (pv 2) (pv 6) (fun _ _ => rfl)) (pe_ix ix_list (pv 4) (pv 6) (fun _ _ => rfl)))))
      pss_nil))
      (pss_cons (ps_set (i := 4) sc_law_received.nd rfl (Or.inl rfl) (pe_op op_cat (pe_lc (own := [("_law_k", 6)]) (g := gName 6) (tt := tYes) (by rfl) sc_law_received.nd (pi_range1 (by rfl) z_range (pa_cons (pv 1) pa_nil)) (blkOk_by (own := [("_law_k", 6)]) (N := N_law_received) (sc := defScope s_law_received) (by decide +kernel)) (fun _ _ _ _ _ => pg_name (i := 6) sc_law_received.nd rfl (Or.inl rfl)) (fun _ _ _ _ _ => pts_nil) (fun _ _ _ _ _ => (pe_op op_and (pe_op op_shr (pv 5) (pv 6)) pe_int))) (pe_slice sl_list (pv 4) (po_some (pv 1)) po_none)))
      (pss_cons (ps_set (i := 7) sc_law_received.nd rfl (Or.inl rfl) (pe_ix ix_list (pe_lst (pa_cons pe_int (pa_cons pe_int (pa_cons pe_int (pa_cons pe_int pa_nil))))) (pe_call G_law_mix (hr.mono (by decide)) (by rfl) g_law_mix k_law_mix b_law_mix .nil pass0 (pa_cons (pv 0) (pa_cons pe_int (pa_cons pe_int pa_nil)))) (fun _ _ => rfl)))
      (pss_cons (ps_for PassesOwn.never rfl (pi_range1 (by rfl) z_range (pa_cons (pv 3) pa_nil)) (pg_name (i := 6) sc_law_received.nd rfl (Or.inl rfl)) (pss_cons (ps_set (i := 8) sc_law_received.nd rfl (Or.inl rfl) (pe_call G_law_mix (hr.mono (by decide)) (by rfl) g_law_mix k_law_mix b_law_mix .nil pass0 (pa_cons (pv 0) (pa_cons (pe_op op_add pe_int (pv 6)) (pa_cons (pv 7) pa_nil)))))
      (pss_cons (ps_if (pt_cmpR op_lt (pv 8) pe_int (nomark _)) (pss_cons (ps_asg (pe_ix ix_list (pe_lst (pa_cons (pe_op op_sub pe_int (pe_ix ix_list (pv 4) (pv 6) (fun _ _ => rfl))) (pa_cons pe_non pa_nil))) (pe_op op_mul (pv 8) (pe_callTy call_int1 (by rfl) z_int (by decide +kernel) (pa_cons (pe_cmpR op_eq (pe_call G_law_mix (hr.mono (by decide)) (by rfl) g_law_mix k_law_mix b_law_mix .nil pass0 (pa_cons (pv 0) (pa_cons (pe_op op_add pe_int (pv 6)) (pa_cons pe_int pa_nil)))) pe_int (nomark _)) pa_nil))) (fun _ _ => rfl)) (pg_sub (pv 4) (pv 6) set_list))
      pss_nil) pss_nil)
      pss_nil)))
      (pss_cons (ps_ret (pv 4))
      pss_nil)))))))
abbrev s_law : Stmt := topS 41
theorem sc_law : FnScope N_law P_law (defScope s_law) := ⟨rfl, rfl, rfl, by decide +kernel, rfl, by decide +kernel, by decide +kernel⟩
theorem ok_law {f : Addr} {fd : FuncData} (F : Fun K "law" "law" s_law f fd) (C_law_draws : Cal P w K mg base 1 "_law_draws" P_law_draws S_law_draws) (C_law_mix : Cal P w K mg base 1 "_law_mix" P_law_mix S_law_mix) (C_law_powers : Cal P w K mg base 1 "_law_powers" P_law_powers S_law_powers) (C_law_least : Cal P w K mg base 2 "_law_least" P_law_least S_law_least) (C_least_unseen : Cal P w K mg base 5 "least_unseen" P_least_unseen S_least_unseen) (C_check_unseen : Cal P w K mg base 4 "check_unseen" P_check_unseen S_check_unseen) (C_state_paper : Cal P w K mg base 4 "state_paper" P_state_paper S_state_paper) (C_profile : Cal P w K mg base 4 "profile" P_profile S_profile) (C_law_profile : Cal P w K mg base 1 "_law_profile" P_law_profile S_law_profile) (C_law_received : Cal P w K mg base 2 "_law_received" P_law_received S_law_received) (C_law_table : Cal P w K mg base 1 "_law_table" P_law_table S_law_table) (C_law_goes : Cal P w K mg base 1 "_law_goes" P_law_goes S_law_goes) (C_nearest : Cal P w K mg base 4 "nearest" P_nearest S_nearest) (C_check_nearest : Cal P w K mg base 4 "check_nearest" P_check_nearest S_check_nearest) (C_margin : Cal P w K mg base 5 "margin" P_margin S_margin) (C_law_margin : Cal P w K mg base 1 "_law_margin" P_law_margin S_law_margin) (z_list : mg "list" = none) (z_int : mg "int" = none) (hs : ∀ ds r, S_law ds r → Sat K (t_law K) (entry N_law ds) (fun _ => r = .none) r) (hl : ∀ ds r, S_law ds r → ds.length = P_law.length) : FnOk P w K mg base CX0 6 f fd P_law (FnSp K S_law) := by
  obtain ⟨f_law_draws, fd_law_draws, G_law_draws, g_law_draws, k_law_draws, b_law_draws⟩ := C_law_draws
  obtain ⟨f_law_mix, fd_law_mix, G_law_mix, g_law_mix, k_law_mix, b_law_mix⟩ := C_law_mix
  obtain ⟨f_law_powers, fd_law_powers, G_law_powers, g_law_powers, k_law_powers, b_law_powers⟩ := C_law_powers
  obtain ⟨f_law_least, fd_law_least, G_law_least, g_law_least, k_law_least, b_law_least⟩ := C_law_least
  obtain ⟨f_least_unseen, fd_least_unseen, G_least_unseen, g_least_unseen, k_least_unseen, b_least_unseen⟩ := C_least_unseen
  obtain ⟨f_check_unseen, fd_check_unseen, G_check_unseen, g_check_unseen, k_check_unseen, b_check_unseen⟩ := C_check_unseen
  obtain ⟨f_state_paper, fd_state_paper, G_state_paper, g_state_paper, k_state_paper, b_state_paper⟩ := C_state_paper
  obtain ⟨f_profile, fd_profile, G_profile, g_profile, k_profile, b_profile⟩ := C_profile
  obtain ⟨f_law_profile, fd_law_profile, G_law_profile, g_law_profile, k_law_profile, b_law_profile⟩ := C_law_profile
  obtain ⟨f_law_received, fd_law_received, G_law_received, g_law_received, k_law_received, b_law_received⟩ := C_law_received
  obtain ⟨f_law_table, fd_law_table, G_law_table, g_law_table, k_law_table, b_law_table⟩ := C_law_table
  obtain ⟨f_law_goes, fd_law_goes, G_law_goes, g_law_goes, k_law_goes, b_law_goes⟩ := C_law_goes
  obtain ⟨f_nearest, fd_nearest, G_nearest, g_nearest, k_nearest, b_nearest⟩ := C_nearest
  obtain ⟨f_check_nearest, fd_check_nearest, G_check_nearest, g_check_nearest, k_check_nearest, b_check_nearest⟩ := C_check_nearest
  obtain ⟨f_margin, fd_margin, G_margin, g_margin, k_margin, b_margin⟩ := C_margin
  obtain ⟨f_law_margin, fd_law_margin, G_law_margin, g_law_margin, k_law_margin, b_law_margin⟩ := C_law_margin
  refine fn_ok (t := t_law K) F sc_law hl (by decide) (fun cdv A outer s H E hr => ?_) hs
  exact (pss_cons (ps_set (i := 1) sc_law.nd rfl (Or.inl rfl) (pe_call G_law_draws (hr.mono (by decide)) (by rfl) g_law_draws k_law_draws b_law_draws .nil pass0 (pa_cons (pv 0) pa_nil)))
      (pss_cons (ps_set (i := 2) sc_law.nd rfl (Or.inl rfl) (pe_op op_add pe_int (pe_call G_law_mix (hr.mono (by decide)) (by rfl) g_law_mix k_law_mix b_law_mix .nil pass0 (pa_cons (pv 1) (pa_cons pe_int (pa_cons pe_int pa_nil))))))
      (pss_cons (ps_set (i := 3) sc_law.nd rfl (Or.inl rfl) (pe_op op_add (pe_op op_add (pe_op op_shl pe_int (pv 2)) pe_int) (pe_op op_mul pe_int (pe_call G_law_mix (hr.mono (by decide)) (by rfl) g_law_mix k_law_mix b_law_mix .nil pass0 (pa_cons (pv 1) (pa_cons pe_int (pa_cons (pe_op op_shl pe_int (pe_op op_sub (pv 2) pe_int)) pa_nil)))))))
      (pss_cons (ps_set (i := 4) sc_law.nd rfl (Or.inl rfl) (pe_op op_add (pe_op op_add (pv 2) pe_int) (pe_call G_law_mix (hr.mono (by decide)) (by rfl) g_law_mix k_law_mix b_law_mix .nil pass0 (pa_cons (pv 1) (pa_cons pe_int (pa_cons (pe_ix ix_list (pe_lst (pa_cons (pe_op op_sub pe_int (pv 2)) (pa_cons (pe_op op_sub pe_int (pv 2)) (pa_cons (pe_op op_sub pe_int (pv 2)) (pa_cons (pe_op op_sub pe_int (pv 2)) pa_nil))))) (pe_call G_law_mix (hr.mono (by decide)) (by rfl) g_law_mix k_law_mix b_law_mix .nil pass0 (pa_cons (pv 1) (pa_cons pe_int (pa_cons pe_int pa_nil)))) (fun _ _ => rfl)) pa_nil))))))
      (pss_cons (ps_set (i := 5) sc_law.nd rfl (Or.inl rfl) (pe_call G_law_powers (hr.mono (by decide)) (by rfl) g_law_powers k_law_powers b_law_powers .nil pass0 (pa_cons (pv 3) (pa_cons (pv 2) (pa_cons (pv 4) pa_nil)))))
      (pss_cons (ps_set (i := 6) sc_law.nd rfl (Or.inl rfl) (pe_call G_law_least (hr.mono (by decide)) (by rfl) g_law_least k_law_least b_law_least .nil pass0 (pa_cons (pv 2) (pa_cons (pv 5) (pa_cons (pv 4) pa_nil)))))
      (pss_cons (ps_set (i := 7) sc_law.nd rfl (Or.inl rfl) (pe_call G_least_unseen (hr.mono (by decide)) (by rfl) g_least_unseen k_least_unseen b_least_unseen .nil pass0 (pa_cons (pv 3) (pa_cons (pv 4) pa_nil))))
      (pss_cons (ps_if (PW.pt (pw_or (pt_cmpR (op_neD hr.units) (pv 7) (pv 6) (nomark _)) (pw_or1 (pt_cmpR op_notBl (pe_call G_check_unseen (hr.mono (by decide)) (by rfl) g_check_unseen k_check_unseen b_check_unseen .nil pass0 (pa_cons (pv 3) (pa_cons (pv 4) (pa_cons (pe_ix ix_tup (pv 7) pe_int (fun _ _ => rfl)) (pa_cons (pe_ix ix_tup (pv 7) pe_int (fun _ _ => rfl)) (pa_cons (pe_call G_state_paper (hr.mono (by decide)) (by rfl) g_state_paper k_state_paper b_state_paper .nil pass0 (pa_cons (pv 3) (pa_cons (pv 4) pa_nil))) pa_nil)))))) pe_bl (nomark _))))) (pss_cons (ps_ret pe_bl)
      pss_nil) pss_nil)
      (pss_cons (ps_if (pt_cmpR (op_neD hr.units) (pe_call G_profile (hr.mono (by decide)) (by rfl) g_profile k_profile b_profile .nil pass0 (pa_cons (pv 3) (pa_cons (pv 4) pa_nil))) (pe_call G_law_profile (hr.mono (by decide)) (by rfl) g_law_profile k_law_profile b_law_profile .nil pass0 (pa_cons (pv 2) (pa_cons (pv 5) (pa_cons (pv 4) pa_nil)))) (nomark _)) (pss_cons (ps_ret pe_bl)
      pss_nil) pss_nil)
      (pss_cons (ps_set (i := 8) sc_law.nd rfl (Or.inl rfl) (pe_call G_law_received (hr.mono (by decide)) (by rfl) g_law_received k_law_received b_law_received .nil pass0 (pa_cons (pv 1) (pa_cons (pv 2) (pa_cons (pv 5) (pa_cons (pv 4) pa_nil))))))
      (pss_cons (ps_set (i := 9) sc_law.nd rfl (Or.inl rfl) (pe_callTy call_list_of (by rfl) z_list (by decide +kernel) (pa_cons (pv 8) pa_nil)))
      (pss_cons (ps_setLc (i := 10) (own := [("_law_bit", 14)]) (g := gName 14) (tt := tYes) (by rfl) sc_law.nd rfl rfl (sw_true rfl rfl rfl (by decide +kernel)) (pi_list (pv 8)) (blkOk_by (own := [("_law_bit", 14)]) (N := N_law) (sc := defScope s_law) (by decide +kernel)) (fun _ _ _ _ _ => pg_name (i := 14) sc_law.nd rfl (Or.inl rfl)) (fun _ _ _ _ _ => pts_nil) (fun _ _ _ _ _ => (pe_tup (pa_cons (pe_callTy call_int1 (by rfl) z_int (by decide +kernel) (pa_cons (pe_cmpR op_eq (pv 14) pe_int (nomark _)) pa_nil)) (pa_cons (pe_callTy call_int1 (by rfl) z_int (by decide +kernel) (pa_cons (pe_cmpR op_eq (pv 14) pe_int (nomark _)) pa_nil)) pa_nil)))))
      (pss_cons (ps_set (i := 11) sc_law.nd rfl (Or.inl rfl) (pe_call G_law_table (hr.mono (by decide)) (by rfl) g_law_table k_law_table b_law_table .nil pass0 (pa_cons (pv 2) (pa_cons (pv 5) (pa_cons (pv 10) pa_nil)))))
      (pss_cons (ps_set (i := 12) sc_law.nd rfl (Or.inl rfl) (pe_call G_law_goes (hr.mono (by decide)) (by rfl) g_law_goes k_law_goes b_law_goes .nil pass0 (pa_cons (pv 11) (pa_cons (pv 5) (pa_cons (pv 10) (pa_cons (pe_lst pa_nil) (pa_cons pe_int pa_nil)))))))
      (pss_cons (ps_set (i := 13) sc_law.nd rfl (Or.inl rfl) (pe_call G_nearest (hr.mono (by decide)) (by rfl) g_nearest k_nearest b_nearest .nil pass0 (pa_cons (pv 3) (pa_cons (pv 8) pa_nil))))
      (pss_cons (ps_if (PW.pt (pw_or (pt_cmpR (op_neD hr.units) (pe_ix ix_tup (pv 13) pe_int (fun _ _ => rfl)) (pv 12) (nomark _)) (pw_or (pt_cmpR op_ne (pe_ix ix_tup (pv 13) pe_int (fun _ _ => rfl)) (pe_ix ix_list (pe_ix ix_list (pv 11) pe_int (fun _ _ => rfl)) pe_int (fun _ _ => rfl)) (nomark _)) (pw_or1 (pt_cmpR (op_neD hr.units) (pv 8) (pv 9) (nomark _)))))) (pss_cons (ps_ret pe_bl)
      pss_nil) pss_nil)
      (pss_cons (ps_if (pt_cmpR op_notBl (pe_call G_check_nearest (hr.mono (by decide)) (by rfl) g_check_nearest k_check_nearest b_check_nearest .nil pass0 (pa_cons (pv 3) (pa_cons (pv 8) (pa_cons (pv 12) (pa_cons (pe_ix ix_tup (pv 13) pe_int (fun _ _ => rfl)) (pa_cons (pe_ix ix_tup (pv 13) pe_int (fun _ _ => rfl)) pa_nil)))))) pe_bl (nomark _)) (pss_cons (ps_ret pe_bl)
      pss_nil) pss_nil)
      (pss_cons (ps_ret (pe_cmpR op_eq (pe_call G_margin (hr.mono (by decide)) (by rfl) g_margin k_margin b_margin .nil pass0 (pa_cons (pv 3) (pa_cons (pv 8) pa_nil))) (pe_call G_law_margin (hr.mono (by decide)) (by rfl) g_law_margin k_law_margin b_law_margin .nil pass0 (pa_cons (pv 11) (pa_cons (pv 5) (pa_cons (pv 10) (pa_cons (pv 12) pa_nil))))) (nomark _)))
      pss_nil))))))))))))))))))
end

theorem len_degree : ∀ ds r, S_degree ds r → ds.length = P_degree.length := by
  rintro ds r ⟨_, _, _, rfl, _⟩
  rfl
theorem len_rest_of : ∀ ds r, S_rest_of ds r → ds.length = P_rest_of.length := by
  rintro ds r ⟨_, _, _, _, _, _, rfl, _⟩
  rfl
theorem len_powers_of_x : ∀ ds r, S_powers_of_x ds r → ds.length = P_powers_of_x.length := by
  rintro ds r ⟨_, _, _, _, _, rfl, _⟩
  rfl
theorem len_check_seal : ∀ ds r, S_check_seal ds r → ds.length = P_check_seal.length := by
  rintro ds r ⟨_, _, _, rfl, _⟩
  rfl
theorem len_check_rows : ∀ ds r, S_check_rows ds r → ds.length = P_check_rows.length := by
  rintro ds r ⟨_, _, _, _, _, _, rfl, _⟩
  rfl
theorem len_states_of : ∀ ds r, S_states_of ds r → ds.length = P_states_of.length := by
  rintro ds r ⟨_, _, _, rfl, _⟩
  rfl
theorem len_least_of : ∀ ds r, S_least_of ds r → ds.length = P_least_of.length := by
  rintro ds r ⟨_, _, _, _, _, _, _, _, _, rfl, _⟩
  rfl
theorem len_lowest_paper : ∀ ds r, S_lowest_paper ds r → ds.length = P_lowest_paper.length := by
  rintro ds r ⟨_, _, _, _, _, _, _, rfl, _⟩
  rfl
theorem len_is_bound : ∀ ds r, S_is_bound ds r → ds.length = P_is_bound.length := by
  rintro ds r ⟨_, _, _, _, _, _, _, rfl, _⟩
  rfl
theorem len_state_paper : ∀ ds r, S_state_paper ds r → ds.length = P_state_paper.length := by
  rintro ds r ⟨_, _, _, _, _, _, rfl, _⟩
  rfl
theorem len_beginnings : ∀ ds r, S_beginnings ds r → ds.length = P_beginnings.length := by
  rintro ds r ⟨_, _, _, _, _, _, rfl, _⟩
  rfl
theorem len_least_unseen : ∀ ds r, S_least_unseen ds r → ds.length = P_least_unseen.length := by
  rintro ds r ⟨_, _, _, _, _, _, _, _, _, rfl, _⟩
  rfl
theorem len_check_unseen : ∀ ds r, S_check_unseen ds r → ds.length = P_check_unseen.length := by
  rintro ds r ⟨_, _, _, _, _, _, _, _, _, rfl, _⟩
  rfl
theorem len_profile : ∀ ds r, S_profile ds r → ds.length = P_profile.length := by
  rintro ds r ⟨_, _, _, _, _, _, rfl, _⟩
  rfl
theorem len_prices_of : ∀ ds r, S_prices_of ds r → ds.length = P_prices_of.length := by
  rintro ds r ⟨_, _, _, rfl, _⟩
  rfl
theorem len_price : ∀ ds r, S_price ds r → ds.length = P_price.length := by
  rintro ds r ⟨_, _, _, _, _, _, rfl, _⟩
  rfl
theorem len_nearest : ∀ ds r, S_nearest ds r → ds.length = P_nearest.length := by
  rintro ds r ⟨_, _, _, _, _, _, _, rfl, _⟩
  rfl
theorem len_others : ∀ ds r, S_others ds r → ds.length = P_others.length := by
  rintro ds r ⟨_, _, _, _, _, _, _, _, _, rfl, _⟩
  rfl
theorem len_check_nearest : ∀ ds r, S_check_nearest ds r → ds.length = P_check_nearest.length := by
  rintro ds r ⟨_, _, _, _, _, _, _, _, _, _, rfl, _⟩
  rfl
theorem len_margin : ∀ ds r, S_margin ds r → ds.length = P_margin.length := by
  rintro ds r ⟨_, _, _, _, _, _, _, _, _, _, _, rfl, _⟩
  rfl
theorem len_law_draws : ∀ ds r, S_law_draws ds r → ds.length = P_law_draws.length := by
  rintro ds r ⟨_, _, rfl, _⟩
  rfl
theorem len_law_mix : ∀ ds r, S_law_mix ds r → ds.length = P_law_mix.length := by
  rintro ds r ⟨_, _, _, _, _, _, rfl, _⟩
  rfl
theorem len_law_powers : ∀ ds r, S_law_powers ds r → ds.length = P_law_powers.length := by
  rintro ds r ⟨_, _, _, _, _, rfl, _⟩
  rfl
theorem len_law_table : ∀ ds r, S_law_table ds r → ds.length = P_law_table.length := by
  rintro ds r ⟨_, _, _, _, _, _, _, _, _, _, rfl, _⟩
  rfl
theorem len_law_goes : ∀ ds r, S_law_goes ds r → ds.length = P_law_goes.length := by
  rintro ds r ⟨_, _, _, _, _, _, _, _, _, _, _, _, _, _, _, rfl, _⟩
  rfl
theorem len_law_least : ∀ ds r, S_law_least ds r → ds.length = P_law_least.length := by
  rintro ds r ⟨_, _, _, _, _, _, _, _, _, _, _, rfl, _⟩
  rfl
theorem len_law_profile : ∀ ds r, S_law_profile ds r → ds.length = P_law_profile.length := by
  rintro ds r ⟨_, _, _, _, _, _, _, _, _, _, rfl, _⟩
  rfl
theorem len_law_margin : ∀ ds r, S_law_margin ds r → ds.length = P_law_margin.length := by
  rintro ds r ⟨_, _, _, _, _, _, _, _, _, _, _, _, _, _, _, rfl, _⟩
  rfl
theorem len_law_received : ∀ ds r, S_law_received ds r → ds.length = P_law_received.length := by
  rintro ds r ⟨_, _, _, _, _, _, _, _, _, _, _, _, rfl, _⟩
  rfl
theorem len_law : ∀ ds r, S_law ds r → ds.length = P_law.length := by
  rintro ds r ⟨_, _, rfl, _⟩
  rfl
/-- where a def stands -/
def DefIs (K : PySem.W.Frag) (x : Str) (st : Stmt) : Prop := ∃ (f : Addr) (fd : FuncData), PySem.W.nsIn K mainGlobals x = some (some (.ref f)) ∧ Fun K x x st f fd
theorem defIs_mk {K : PySem.W.Frag} {x : Str} {st : Stmt} {f : Addr} {oc : Value} {od an : Option Addr} {osl : Array (Option Value)} {kV doc pm cdv ct : Value} (a : PySem.W.nsIn K mainGlobals x = some (some (.ref f)))
    (l : K.lookup f = some ⟨oc, od, .func (PySem.W.fnOf x x (defArgs st) (defBody st) (defScope st) .none kV doc pm an cdv ct), osl⟩) (c : PySem.W.codeIn K cdv x = true) (k : PySem.W.keepIn K (.ref f) = true) : DefIs K x st := ⟨f, _, a, fun_mk l c k⟩

theorem all_mk {P : Program} {w : World} {K : PySem.W.Frag} {h : Heap} {mg : Str → Option Value} {fa : Addr} (X : K.In h) (G : h.Ns mainGlobals mg) (hfa : mg "law" = some (.ref fa))
    (D_degree : DefIs K "degree" s_degree)
    (D_rest_of : DefIs K "rest_of" s_rest_of)
    (D_powers_of_x : DefIs K "powers_of_x" s_powers_of_x)
    (D_check_seal : DefIs K "check_seal" s_check_seal)
    (D_check_rows : DefIs K "check_rows" s_check_rows)
    (D_states_of : DefIs K "states_of" s_states_of)
    (D_least_of : DefIs K "least_of" s_least_of)
    (D_lowest_paper : DefIs K "lowest_paper" s_lowest_paper)
    (D_is_bound : DefIs K "is_bound" s_is_bound)
    (D_state_paper : DefIs K "state_paper" s_state_paper)
    (D_beginnings : DefIs K "beginnings" s_beginnings)
    (D_least_unseen : DefIs K "least_unseen" s_least_unseen)
    (D_check_unseen : DefIs K "check_unseen" s_check_unseen)
    (D_profile : DefIs K "profile" s_profile)
    (D_prices_of : DefIs K "prices_of" s_prices_of)
    (D_price : DefIs K "price" s_price)
    (D_nearest : DefIs K "nearest" s_nearest)
    (D_others : DefIs K "others" s_others)
    (D_check_nearest : DefIs K "check_nearest" s_check_nearest)
    (D_margin : DefIs K "margin" s_margin)
    (D_law_draws : DefIs K "_law_draws" s_law_draws)
    (D_law_mix : DefIs K "_law_mix" s_law_mix)
    (D_law_powers : DefIs K "_law_powers" s_law_powers)
    (D_law_table : DefIs K "_law_table" s_law_table)
    (D_law_goes : DefIs K "_law_goes" s_law_goes)
    (D_law_least : DefIs K "_law_least" s_law_least)
    (D_law_profile : DefIs K "_law_profile" s_law_profile)
    (D_law_margin : DefIs K "_law_margin" s_law_margin)
    (D_law_received : DefIs K "_law_received" s_law_received)
    (D_law : DefIs K "law" s_law)
    (Z_range : PySem.W.nsIn K mainGlobals "range" = some none)
    (Z_len : PySem.W.nsIn K mainGlobals "len" = some none)
    (Z_min : PySem.W.nsIn K mainGlobals "min" = some none)
    (Z_all : PySem.W.nsIn K mainGlobals "all" = some none)
    (Z_max : PySem.W.nsIn K mainGlobals "max" = some none)
    (Z_sum : PySem.W.nsIn K mainGlobals "sum" = some none)
    (Z_list : PySem.W.nsIn K mainGlobals "list" = some none)
    (Z_int : PySem.W.nsIn K mainGlobals "int" = some none)
    (Z_abs : PySem.W.nsIn K mainGlobals "abs" = some none)
    {t_MOST_DEGREE : Tok} (I_MOST_DEGREE : PySem.W.nsIn K mainGlobals "MOST_DEGREE" = some (some (.int 8 t_MOST_DEGREE)))
    {t_MOST_BITS : Tok} (I_MOST_BITS : PySem.W.nsIn K mainGlobals "MOST_BITS" = some (some (.int 300 t_MOST_BITS))) :
    ∃ fd : FuncData, (∀ (s : Shared) (v : Value), BindsTo s fd ⟨[v], []⟩ [("_law_script", v)]) ∧ ∀ base : Heap, K.In base → base.Ns mainGlobals mg → FnOk P w K mg base CX0 6 fa fd ["_law_script"] (FnSp K S_law) := by
  obtain ⟨f_degree, fd_degree, a_degree, F_degree⟩ := D_degree
  obtain ⟨f_rest_of, fd_rest_of, a_rest_of, F_rest_of⟩ := D_rest_of
  obtain ⟨f_powers_of_x, fd_powers_of_x, a_powers_of_x, F_powers_of_x⟩ := D_powers_of_x
  obtain ⟨f_check_seal, fd_check_seal, a_check_seal, F_check_seal⟩ := D_check_seal
  obtain ⟨f_check_rows, fd_check_rows, a_check_rows, F_check_rows⟩ := D_check_rows
  obtain ⟨f_states_of, fd_states_of, a_states_of, F_states_of⟩ := D_states_of
  obtain ⟨f_least_of, fd_least_of, a_least_of, F_least_of⟩ := D_least_of
  obtain ⟨f_lowest_paper, fd_lowest_paper, a_lowest_paper, F_lowest_paper⟩ := D_lowest_paper
  obtain ⟨f_is_bound, fd_is_bound, a_is_bound, F_is_bound⟩ := D_is_bound
  obtain ⟨f_state_paper, fd_state_paper, a_state_paper, F_state_paper⟩ := D_state_paper
  obtain ⟨f_beginnings, fd_beginnings, a_beginnings, F_beginnings⟩ := D_beginnings
  obtain ⟨f_least_unseen, fd_least_unseen, a_least_unseen, F_least_unseen⟩ := D_least_unseen
  obtain ⟨f_check_unseen, fd_check_unseen, a_check_unseen, F_check_unseen⟩ := D_check_unseen
  obtain ⟨f_profile, fd_profile, a_profile, F_profile⟩ := D_profile
  obtain ⟨f_prices_of, fd_prices_of, a_prices_of, F_prices_of⟩ := D_prices_of
  obtain ⟨f_price, fd_price, a_price, F_price⟩ := D_price
  obtain ⟨f_nearest, fd_nearest, a_nearest, F_nearest⟩ := D_nearest
  obtain ⟨f_others, fd_others, a_others, F_others⟩ := D_others
  obtain ⟨f_check_nearest, fd_check_nearest, a_check_nearest, F_check_nearest⟩ := D_check_nearest
  obtain ⟨f_margin, fd_margin, a_margin, F_margin⟩ := D_margin
  obtain ⟨f_law_draws, fd_law_draws, a_law_draws, F_law_draws⟩ := D_law_draws
  obtain ⟨f_law_mix, fd_law_mix, a_law_mix, F_law_mix⟩ := D_law_mix
  obtain ⟨f_law_powers, fd_law_powers, a_law_powers, F_law_powers⟩ := D_law_powers
  obtain ⟨f_law_table, fd_law_table, a_law_table, F_law_table⟩ := D_law_table
  obtain ⟨f_law_goes, fd_law_goes, a_law_goes, F_law_goes⟩ := D_law_goes
  obtain ⟨f_law_least, fd_law_least, a_law_least, F_law_least⟩ := D_law_least
  obtain ⟨f_law_profile, fd_law_profile, a_law_profile, F_law_profile⟩ := D_law_profile
  obtain ⟨f_law_margin, fd_law_margin, a_law_margin, F_law_margin⟩ := D_law_margin
  obtain ⟨f_law_received, fd_law_received, a_law_received, F_law_received⟩ := D_law_received
  obtain ⟨f_law, fd_law, a_law, F_law⟩ := D_law
  have z_range := PySem.W.mg_none_of X G Z_range
  have z_len := PySem.W.mg_none_of X G Z_len
  have z_min := PySem.W.mg_none_of X G Z_min
  have z_all := PySem.W.mg_none_of X G Z_all
  have z_max := PySem.W.mg_none_of X G Z_max
  have z_sum := PySem.W.mg_none_of X G Z_sum
  have z_list := PySem.W.mg_none_of X G Z_list
  have z_int := PySem.W.mg_none_of X G Z_int
  have z_abs := PySem.W.mg_none_of X G Z_abs
  have i_MOST_DEGREE := PySem.W.mg_of X G I_MOST_DEGREE
  have i_MOST_BITS := PySem.W.mg_of X G I_MOST_BITS
  have e := hfa.symm.trans (PySem.W.mg_of X G a_law)
  cases e
  refine ⟨fd_law, ?_, fun base _ _ => ?_⟩
  · obtain ⟨oc, od, kV, doc, pm, an, cdv, ct, osl, rfl, lk, hcd⟩ := F_law.ex
    exact fun s v => .of_eq rfl
  · have C_degree : Cal P w K mg base 1 "degree" P_degree S_degree := ⟨f_degree, fd_degree, ok_degree F_degree (sat_degree K) len_degree, PySem.W.mg_of X G a_degree, F_degree.kp, F_degree.binds (ps := P_degree) fun _ _ _ _ _ _ us hl => match us, hl with | [_], _ => rfl⟩
    have C_rest_of : Cal P w K mg base 2 "rest_of" P_rest_of S_rest_of := ⟨f_rest_of, fd_rest_of, ok_rest_of F_rest_of C_degree z_range z_len (sat_rest_of K) len_rest_of, PySem.W.mg_of X G a_rest_of, F_rest_of.kp, F_rest_of.binds (ps := P_rest_of) fun _ _ _ _ _ _ us hl => match us, hl with | [_, _], _ => rfl⟩
    have C_powers_of_x : Cal P w K mg base 2 "powers_of_x" P_powers_of_x S_powers_of_x := ⟨f_powers_of_x, fd_powers_of_x, ok_powers_of_x F_powers_of_x C_degree z_range (sat_powers_of_x K) len_powers_of_x, PySem.W.mg_of X G a_powers_of_x, F_powers_of_x.kp, F_powers_of_x.binds (ps := P_powers_of_x) fun _ _ _ _ _ _ us hl => match us, hl with | [_, _], _ => rfl⟩
    have C_check_seal : Cal P w K mg base 2 "check_seal" P_check_seal S_check_seal := ⟨f_check_seal, fd_check_seal, ok_check_seal F_check_seal C_degree (sat_check_seal K) len_check_seal, PySem.W.mg_of X G a_check_seal, F_check_seal.kp, F_check_seal.binds (ps := P_check_seal) fun _ _ _ _ _ _ us hl => match us, hl with | [_, _], _ => rfl⟩
    have C_check_rows : Cal P w K mg base 3 "check_rows" P_check_rows S_check_rows := ⟨f_check_rows, fd_check_rows, ok_check_rows F_check_rows C_check_seal C_degree i_MOST_DEGREE i_MOST_BITS (sat_check_rows K) len_check_rows, PySem.W.mg_of X G a_check_rows, F_check_rows.kp, F_check_rows.binds (ps := P_check_rows) fun _ _ _ _ _ _ us hl => match us, hl with | [_, _], _ => rfl⟩
    have C_states_of : Cal P w K mg base 2 "states_of" P_states_of S_states_of := ⟨f_states_of, fd_states_of, ok_states_of F_states_of C_degree (sat_states_of K) len_states_of, PySem.W.mg_of X G a_states_of, F_states_of.kp, F_states_of.binds (ps := P_states_of) fun _ _ _ _ _ _ us hl => match us, hl with | [_], _ => rfl⟩
    have C_least_of : Cal P w K mg base 1 "least_of" P_least_of S_least_of := ⟨f_least_of, fd_least_of, ok_least_of F_least_of z_min (sat_least_of K) len_least_of, PySem.W.mg_of X G a_least_of, F_least_of.kp, F_least_of.binds (ps := P_least_of) fun _ _ _ _ _ _ us hl => match us, hl with | [_, _, _, _], _ => rfl⟩
    have C_lowest_paper : Cal P w K mg base 3 "lowest_paper" P_lowest_paper S_lowest_paper := ⟨f_lowest_paper, fd_lowest_paper, ok_lowest_paper F_lowest_paper C_powers_of_x C_states_of C_least_of z_len z_range (sat_lowest_paper K) len_lowest_paper, PySem.W.mg_of X G a_lowest_paper, F_lowest_paper.kp, F_lowest_paper.binds (ps := P_lowest_paper) fun _ _ _ _ _ _ us hl => match us, hl with | [_, _], _ => rfl⟩
    have C_is_bound : Cal P w K mg base 3 "is_bound" P_is_bound S_is_bound := ⟨f_is_bound, fd_is_bound, ok_is_bound F_is_bound C_states_of C_powers_of_x C_least_of z_len z_all z_range (sat_is_bound K) len_is_bound, PySem.W.mg_of X G a_is_bound, F_is_bound.kp, F_is_bound.binds (ps := P_is_bound) fun _ _ _ _ _ _ us hl => match us, hl with | [_, _, _], _ => rfl⟩
    have C_state_paper : Cal P w K mg base 4 "state_paper" P_state_paper S_state_paper := ⟨f_state_paper, fd_state_paper, ok_state_paper F_state_paper C_check_rows C_lowest_paper (sat_state_paper K) len_state_paper, PySem.W.mg_of X G a_state_paper, F_state_paper.kp, F_state_paper.binds (ps := P_state_paper) fun _ _ _ _ _ _ us hl => match us, hl with | [_, _], _ => rfl⟩
    have C_beginnings : Cal P w K mg base 3 "beginnings" P_beginnings S_beginnings := ⟨f_beginnings, fd_beginnings, ok_beginnings F_beginnings C_powers_of_x z_range (sat_beginnings K) len_beginnings, PySem.W.mg_of X G a_beginnings, F_beginnings.kp, F_beginnings.binds (ps := P_beginnings) fun _ _ _ _ _ _ us hl => match us, hl with | [_, _, _], _ => rfl⟩
    have C_least_unseen : Cal P w K mg base 5 "least_unseen" P_least_unseen S_least_unseen := ⟨f_least_unseen, fd_least_unseen, ok_least_unseen F_least_unseen C_state_paper C_powers_of_x C_beginnings z_min z_max z_range (sat_least_unseen K) len_least_unseen, PySem.W.mg_of X G a_least_unseen, F_least_unseen.kp, F_least_unseen.binds (ps := P_least_unseen) fun _ _ _ _ _ _ us hl => match us, hl with | [_, _], _ => rfl⟩
    have C_check_unseen : Cal P w K mg base 4 "check_unseen" P_check_unseen S_check_unseen := ⟨f_check_unseen, fd_check_unseen, ok_check_unseen F_check_unseen C_check_rows C_rest_of C_is_bound C_beginnings z_len z_all z_sum (sat_check_unseen K) len_check_unseen, PySem.W.mg_of X G a_check_unseen, F_check_unseen.kp, F_check_unseen.binds (ps := P_check_unseen) fun _ _ _ _ _ _ us hl => match us, hl with | [_, _, _, _, _], _ => rfl⟩
    have C_profile : Cal P w K mg base 4 "profile" P_profile S_profile := ⟨f_profile, fd_profile, ok_profile F_profile C_check_rows C_powers_of_x C_states_of z_range z_list (sat_profile K) len_profile, PySem.W.mg_of X G a_profile, F_profile.kp, F_profile.binds (ps := P_profile) fun _ _ _ _ _ _ us hl => match us, hl with | [_, _], _ => rfl⟩
    have C_prices_of : Cal P w K mg base 1 "prices_of" P_prices_of S_prices_of := ⟨f_prices_of, fd_prices_of, ok_prices_of F_prices_of z_int (sat_prices_of K) len_prices_of, PySem.W.mg_of X G a_prices_of, F_prices_of.kp, F_prices_of.binds (ps := P_prices_of) fun _ _ _ _ _ _ us hl => match us, hl with | [_], _ => rfl⟩
    have C_price : Cal P w K mg base 1 "price" P_price S_price := ⟨f_price, fd_price, ok_price F_price z_len z_range (sat_price K) len_price, PySem.W.mg_of X G a_price, F_price.kp, F_price.binds (ps := P_price) fun _ _ _ _ _ _ us hl => match us, hl with | [_, _], _ => rfl⟩
    have C_nearest : Cal P w K mg base 4 "nearest" P_nearest S_nearest := ⟨f_nearest, fd_nearest, ok_nearest F_nearest C_check_rows C_prices_of C_powers_of_x C_lowest_paper z_len z_range (sat_nearest K) len_nearest, PySem.W.mg_of X G a_nearest, F_nearest.kp, F_nearest.binds (ps := P_nearest) fun _ _ _ _ _ _ us hl => match us, hl with | [_, _], _ => rfl⟩
    have C_others : Cal P w K mg base 3 "others" P_others S_others := ⟨f_others, fd_others, ok_others F_others C_prices_of C_powers_of_x z_len z_range (sat_others K) len_others, PySem.W.mg_of X G a_others, F_others.kp, F_others.binds (ps := P_others) fun _ _ _ _ _ _ us hl => match us, hl with | [_, _, _, _], _ => rfl⟩
    have C_check_nearest : Cal P w K mg base 4 "check_nearest" P_check_nearest S_check_nearest := ⟨f_check_nearest, fd_check_nearest, ok_check_nearest F_check_nearest C_check_rows C_rest_of C_price C_is_bound C_prices_of C_others z_len z_all z_range (sat_check_nearest K) len_check_nearest, PySem.W.mg_of X G a_check_nearest, F_check_nearest.kp, F_check_nearest.binds (ps := P_check_nearest) fun _ _ _ _ _ _ us hl => match us, hl with | [_, _, _, _, _], _ => rfl⟩
    have C_margin : Cal P w K mg base 5 "margin" P_margin S_margin := ⟨f_margin, fd_margin, ok_margin F_margin C_nearest C_others z_min (sat_margin K) len_margin, PySem.W.mg_of X G a_margin, F_margin.kp, F_margin.binds (ps := P_margin) fun _ _ _ _ _ _ us hl => match us, hl with | [_, _], _ => rfl⟩
    have C_law_draws : Cal P w K mg base 1 "_law_draws" P_law_draws S_law_draws := ⟨f_law_draws, fd_law_draws, ok_law_draws F_law_draws z_range z_min z_len z_abs z_int (sat_law_draws K) len_law_draws, PySem.W.mg_of X G a_law_draws, F_law_draws.kp, F_law_draws.binds (ps := P_law_draws) fun _ _ _ _ _ _ us hl => match us, hl with | [_], _ => rfl⟩
    have C_law_mix : Cal P w K mg base 1 "_law_mix" P_law_mix S_law_mix := ⟨f_law_mix, fd_law_mix, ok_law_mix F_law_mix z_len z_int (sat_law_mix K) len_law_mix, PySem.W.mg_of X G a_law_mix, F_law_mix.kp, F_law_mix.binds (ps := P_law_mix) fun _ _ _ _ _ _ us hl => match us, hl with | [_, _, _], _ => rfl⟩
    have C_law_powers : Cal P w K mg base 1 "_law_powers" P_law_powers S_law_powers := ⟨f_law_powers, fd_law_powers, ok_law_powers F_law_powers z_range (sat_law_powers K) len_law_powers, PySem.W.mg_of X G a_law_powers, F_law_powers.kp, F_law_powers.binds (ps := P_law_powers) fun _ _ _ _ _ _ us hl => match us, hl with | [_, _, _], _ => rfl⟩
    have C_law_table : Cal P w K mg base 1 "_law_table" P_law_table S_law_table := ⟨f_law_table, fd_law_table, ok_law_table F_law_table z_range z_len (sat_law_table K) len_law_table, PySem.W.mg_of X G a_law_table, F_law_table.kp, F_law_table.binds (ps := P_law_table) fun _ _ _ _ _ _ us hl => match us, hl with | [_, _, _], _ => rfl⟩
    have C_law_goes : Cal P w K mg base 1 "_law_goes" P_law_goes S_law_goes := ⟨f_law_goes, fd_law_goes, ok_law_goes F_law_goes z_list z_range z_len z_int (sat_law_goes K) len_law_goes, PySem.W.mg_of X G a_law_goes, F_law_goes.kp, F_law_goes.binds (ps := P_law_goes) fun _ _ _ _ _ _ us hl => match us, hl with | [_, _, _, _, _], _ => rfl⟩
    have C_law_least : Cal P w K mg base 2 "_law_least" P_law_least S_law_least := ⟨f_law_least, fd_law_least, ok_law_least F_law_least C_law_table C_law_goes z_range (sat_law_least K) len_law_least, PySem.W.mg_of X G a_law_least, F_law_least.kp, F_law_least.binds (ps := P_law_least) fun _ _ _ _ _ _ us hl => match us, hl with | [_, _, _], _ => rfl⟩
    have C_law_profile : Cal P w K mg base 1 "_law_profile" P_law_profile S_law_profile := ⟨f_law_profile, fd_law_profile, ok_law_profile F_law_profile z_range z_list (sat_law_profile K) len_law_profile, PySem.W.mg_of X G a_law_profile, F_law_profile.kp, F_law_profile.binds (ps := P_law_profile) fun _ _ _ _ _ _ us hl => match us, hl with | [_, _, _], _ => rfl⟩
    have C_law_margin : Cal P w K mg base 1 "_law_margin" P_law_margin S_law_margin := ⟨f_law_margin, fd_law_margin, ok_law_margin F_law_margin z_range z_len (sat_law_margin K) len_law_margin, PySem.W.mg_of X G a_law_margin, F_law_margin.kp, F_law_margin.binds (ps := P_law_margin) fun _ _ _ _ _ _ us hl => match us, hl with | [_, _, _, _], _ => rfl⟩
    have C_law_received : Cal P w K mg base 2 "_law_received" P_law_received S_law_received := ⟨f_law_received, fd_law_received, ok_law_received F_law_received C_law_mix z_range z_int (sat_law_received K) len_law_received, PySem.W.mg_of X G a_law_received, F_law_received.kp, F_law_received.binds (ps := P_law_received) fun _ _ _ _ _ _ us hl => match us, hl with | [_, _, _, _], _ => rfl⟩
    exact ok_law F_law C_law_draws C_law_mix C_law_powers C_law_least C_least_unseen C_check_unseen C_state_paper C_profile C_law_profile C_law_received C_law_table C_law_goes C_nearest C_check_nearest C_margin C_law_margin z_list z_int (sat_law K) len_law
theorem law_in {K : PySem.W.Frag} {H : Hp} {a : Addr} {ns : List Int} (hl : ns.length ≤ 63) (hS : SqL K H a (ns.map V.int)) : FnSp K S_law [.ref a] H (fun v _ => v = .bl true) fun _ _ _ => False :=
  ⟨H, [.list (ns.map .int)], .bool true, Evl.Ex.refl H, .cons (.lst hS (dpa_int ns)) .nil, ⟨ns, hl, rfl, rfl⟩, fun v H' _ h => by
    cases h
    rfl⟩
end Fh

open PySem PySem.W PyProof.Rows
set_option maxHeartbeats 0 in
theorem PySem.Challenge.cw_farhaul_k72_whole_long_sealed_rows_holds : PySem.Challenge.rw_farhaul_k72_whole_long_sealed_rows.Holds := by
  w_on; o_law; k_head; (case hw => w_witness2)
  k_fill
  refine L2.walk_ofK (l := PySem.Challenge.rw_farhaul_k72_whole_long_sealed_rows) (n := 63) (k := 6) (x := "_law_script") (CX := L2.CX0) (sp := fun K => Fh.FnSp K Fh.S_law) rfl (by decide) rfl ⟨rfl, by decide, by decide⟩ (fun w h Y => PySem.W.kIn_of Y) ?F (fun K H a ns hl _ hS => Fh.law_in hl hS) (fun _ _ _ _ h => h)
  case F =>
    intro w mg fa h KX G hmg
    refine' Fh.all_mk KX G hmg ?d_degree ?d_rest_of ?d_powers_of_x ?d_check_seal ?d_check_rows ?d_states_of ?d_least_of ?d_lowest_paper ?d_is_bound ?d_state_paper ?d_beginnings ?d_least_unseen ?d_check_unseen ?d_profile ?d_prices_of ?d_price ?d_nearest ?d_others ?d_check_nearest ?d_margin ?d_law_draws ?d_law_mix ?d_law_powers ?d_law_table ?d_law_goes ?d_law_least ?d_law_profile ?d_law_margin ?d_law_received ?d_law ?z_range ?z_len ?z_min ?z_all ?z_max ?z_sum ?z_list ?z_int ?z_abs ?i_MOST_DEGREE ?i_MOST_BITS
    (case d_degree => refine' Fh.defIs_mk ?a ?l ?c ?k; (case a => k_is); (case l => k_is); (case c => k_is); (case k => k_is))
    (case d_rest_of => refine' Fh.defIs_mk ?a ?l ?c ?k; (case a => k_is); (case l => k_is); (case c => k_is); (case k => k_is))
    (case d_powers_of_x => refine' Fh.defIs_mk ?a ?l ?c ?k; (case a => k_is); (case l => k_is); (case c => k_is); (case k => k_is))
    (case d_check_seal => refine' Fh.defIs_mk ?a ?l ?c ?k; (case a => k_is); (case l => k_is); (case c => k_is); (case k => k_is))
    (case d_check_rows => refine' Fh.defIs_mk ?a ?l ?c ?k; (case a => k_is); (case l => k_is); (case c => k_is); (case k => k_is))
    (case d_states_of => refine' Fh.defIs_mk ?a ?l ?c ?k; (case a => k_is); (case l => k_is); (case c => k_is); (case k => k_is))
    (case d_least_of => refine' Fh.defIs_mk ?a ?l ?c ?k; (case a => k_is); (case l => k_is); (case c => k_is); (case k => k_is))
    (case d_lowest_paper => refine' Fh.defIs_mk ?a ?l ?c ?k; (case a => k_is); (case l => k_is); (case c => k_is); (case k => k_is))
    (case d_is_bound => refine' Fh.defIs_mk ?a ?l ?c ?k; (case a => k_is); (case l => k_is); (case c => k_is); (case k => k_is))
    (case d_state_paper => refine' Fh.defIs_mk ?a ?l ?c ?k; (case a => k_is); (case l => k_is); (case c => k_is); (case k => k_is))
    (case d_beginnings => refine' Fh.defIs_mk ?a ?l ?c ?k; (case a => k_is); (case l => k_is); (case c => k_is); (case k => k_is))
    (case d_least_unseen => refine' Fh.defIs_mk ?a ?l ?c ?k; (case a => k_is); (case l => k_is); (case c => k_is); (case k => k_is))
    (case d_check_unseen => refine' Fh.defIs_mk ?a ?l ?c ?k; (case a => k_is); (case l => k_is); (case c => k_is); (case k => k_is))
    (case d_profile => refine' Fh.defIs_mk ?a ?l ?c ?k; (case a => k_is); (case l => k_is); (case c => k_is); (case k => k_is))
    (case d_prices_of => refine' Fh.defIs_mk ?a ?l ?c ?k; (case a => k_is); (case l => k_is); (case c => k_is); (case k => k_is))
    (case d_price => refine' Fh.defIs_mk ?a ?l ?c ?k; (case a => k_is); (case l => k_is); (case c => k_is); (case k => k_is))
    (case d_nearest => refine' Fh.defIs_mk ?a ?l ?c ?k; (case a => k_is); (case l => k_is); (case c => k_is); (case k => k_is))
    (case d_others => refine' Fh.defIs_mk ?a ?l ?c ?k; (case a => k_is); (case l => k_is); (case c => k_is); (case k => k_is))
    (case d_check_nearest => refine' Fh.defIs_mk ?a ?l ?c ?k; (case a => k_is); (case l => k_is); (case c => k_is); (case k => k_is))
    (case d_margin => refine' Fh.defIs_mk ?a ?l ?c ?k; (case a => k_is); (case l => k_is); (case c => k_is); (case k => k_is))
    (case d_law_draws => refine' Fh.defIs_mk ?a ?l ?c ?k; (case a => k_is); (case l => k_is); (case c => k_is); (case k => k_is))
    (case d_law_mix => refine' Fh.defIs_mk ?a ?l ?c ?k; (case a => k_is); (case l => k_is); (case c => k_is); (case k => k_is))
    (case d_law_powers => refine' Fh.defIs_mk ?a ?l ?c ?k; (case a => k_is); (case l => k_is); (case c => k_is); (case k => k_is))
    (case d_law_table => refine' Fh.defIs_mk ?a ?l ?c ?k; (case a => k_is); (case l => k_is); (case c => k_is); (case k => k_is))
    (case d_law_goes => refine' Fh.defIs_mk ?a ?l ?c ?k; (case a => k_is); (case l => k_is); (case c => k_is); (case k => k_is))
    (case d_law_least => refine' Fh.defIs_mk ?a ?l ?c ?k; (case a => k_is); (case l => k_is); (case c => k_is); (case k => k_is))
    (case d_law_profile => refine' Fh.defIs_mk ?a ?l ?c ?k; (case a => k_is); (case l => k_is); (case c => k_is); (case k => k_is))
    (case d_law_margin => refine' Fh.defIs_mk ?a ?l ?c ?k; (case a => k_is); (case l => k_is); (case c => k_is); (case k => k_is))
    (case d_law_received => refine' Fh.defIs_mk ?a ?l ?c ?k; (case a => k_is); (case l => k_is); (case c => k_is); (case k => k_is))
    (case d_law => refine' Fh.defIs_mk ?a ?l ?c ?k; (case a => k_is); (case l => k_is); (case c => k_is); (case k => k_is))
    (case z_range => k_is)
    (case z_len => k_is)
    (case z_min => k_is)
    (case z_all => k_is)
    (case z_max => k_is)
    (case z_sum => k_is)
    (case z_list => k_is)
    (case z_int => k_is)
    (case z_abs => k_is)
    (case i_MOST_DEGREE => k_is)
    (case i_MOST_BITS => k_is)
