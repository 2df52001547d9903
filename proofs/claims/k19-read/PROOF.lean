import PyProof.Rows.All
import Wide.All
import OpenK.AllK
import Wide.FinOn
import HandS.ForMost
import HandS.IsInst
import HandS.TupAny
import HandS.Rev
import HandS.Deep
import HandS.Exc
import HandS.ExcOwn
import HandS.ExcIs
import HandS.WordsExc
import KE.DatumOrd
import HandS.TryOnly
import KE.GoesComp
import KE.KAsSuite
import PySem.Challenge.RW_downstair_k19_read
set_option Elab.async false
set_option linter.all false
set_option maxRecDepth 100000
set_option maxHeartbeats 4000000
namespace DL
open PySem PySem.Spec PyProof.Rows L2

/-! ### heaps -/
theorem sqT_mono {K : PySem.W.Frag} {H H' : Hp} {a : Addr} {xs : List V} (e : Same H H') (h : SqT K H a xs) : SqT K H' a xs := by
  rcases h with (h | ⟨o, h⟩) | h
  · exact .inl (.inl (e _ _ h))
  · exact .inl (.inr ⟨o, e _ _ h⟩)
  · exact .inr h
mutual
theorem dp_mono {K : PySem.W.Frag} {H H' : Hp} (e : Same H H') : ∀ (d : PyData) (v : V), Dp K H v d → Dp K H' v d
  | .none, _, h => by cases h; exact .non
  | .bool b, _, h => by cases h; exact .bl b
  | .int i, _, h => by cases h; exact .int i
  | .str x, _, h => by cases h; exact .str x
  | .list ds, _, h => by
    cases h with
    | lst a b => exact .lst (e.seq a) (dpAll_mono e ds _ b)
  | .tuple ds, _, h => by
    cases h with
    | tup a b => exact .tup (sqT_mono e a) (dpAll_mono e ds _ b)
  | .dict _, _, h => by cases h
theorem dpAll_mono {K : PySem.W.Frag} {H H' : Hp} (e : Same H H') : ∀ (ds : List PyData) (vs : List V), DpAll K H vs ds → DpAll K H' vs ds
  | [], _, h => by cases h; exact .nil
  | d :: ds, _, h => by
    cases h with
    | cons a b => exact .cons (dp_mono e d _ a) (dpAll_mono e ds _ b)
end
theorem _root_.L2.Dp.up {K : PySem.W.Frag} {H H' : Hp} {d : PyData} {v : V} (h : Dp K H v d) (e : Same H H') : Dp K H' v d := dp_mono e d v h
theorem _root_.L2.DpAll.up {K : PySem.W.Frag} {H H' : Hp} {d : List PyData} {v : List V} (h : DpAll K H v d) (e : Same H H') : DpAll K H' v d := dpAll_mono e d v h
theorem dpAll_len {K : PySem.W.Frag} {H : Hp} : ∀ {ds : List PyData} {vs : List V}, DpAll K H vs ds → vs.length = ds.length
  | [], _, h => by cases h; rfl
  | d :: ds, _, h => by
    cases h with
    | cons a b => rw [List.length_cons, List.length_cons, dpAll_len b]
theorem dpAll_get {K : PySem.W.Frag} {H : Hp} : ∀ {ds : List PyData} {vs : List V} {i : Nat} {d : PyData}, DpAll K H vs ds → ds[i]? = some d → ∃ v, vs[i]? = some v ∧ Dp K H v d
  | [], _, _, _, _, e => by simp at e
  | d :: ds, _, 0, d', h, e => by
    cases h with
    | cons a b =>
      have e' : d = d' := Option.some.inj e
      subst e'
      exact ⟨_, rfl, a⟩
  | d :: ds, _, i + 1, d', h, e => by
    cases h with
    | cons a b => exact dpAll_get (i := i) b e
theorem dpAll_getV {K : PySem.W.Frag} {H : Hp} : ∀ {ds : List PyData} {vs : List V} {i : Nat} {v : V}, DpAll K H vs ds → vs[i]? = some v → ∃ d, ds[i]? = some d ∧ Dp K H v d
  | [], _, _, _, h, e => by cases h; simp at e
  | d :: ds, _, 0, v, h, e => by
    cases h with
    | cons a b =>
      have e' := Option.some.inj e
      subst e'
      exact ⟨_, rfl, a⟩
  | d :: ds, _, i + 1, d', h, e => by
    cases h with
    | cons a b => exact dpAll_getV (i := i) b e
theorem dpAll_app {K : PySem.W.Frag} {H : Hp} : ∀ {ds es : List PyData} {vs us : List V}, DpAll K H vs ds → DpAll K H us es → DpAll K H (vs ++ us) (ds ++ es)
  | [], _, _, _, h, k => by cases h; exact k
  | d :: ds, _, _, _, h, k => by
    cases h with
    | cons a b => exact .cons a (dpAll_app b k)
theorem dpAll_take {K : PySem.W.Frag} {H : Hp} : ∀ (n : Nat) {ds : List PyData} {vs : List V}, DpAll K H vs ds → DpAll K H (vs.take n) (ds.take n)
  | 0, _, _, _ => .nil
  | n + 1, [], _, h => by cases h; exact .nil
  | n + 1, d :: ds, _, h => by
    cases h with
    | cons a b => exact .cons a (dpAll_take n b)
theorem dpAll_drop {K : PySem.W.Frag} {H : Hp} : ∀ (n : Nat) {ds : List PyData} {vs : List V}, DpAll K H vs ds → DpAll K H (vs.drop n) (ds.drop n)
  | 0, _, _, h => h
  | n + 1, [], _, h => by cases h; exact .nil
  | n + 1, d :: ds, _, h => by
    cases h with
    | cons a b => exact dpAll_drop n b
theorem dpAll_set {K : PySem.W.Frag} {H : Hp} {v : V} {d : PyData} (r : Dp K H v d) : ∀ (n : Nat) {ds : List PyData} {vs : List V}, DpAll K H vs ds → DpAll K H (vs.set n v) (ds.set n d)
  | _, [], _, h => by cases h; exact .nil
  | 0, e :: ds, _, h => by
    cases h with
    | cons a b => exact .cons r b
  | n + 1, e :: ds, _, h => by
    cases h with
    | cons a b => exact .cons a (dpAll_set r n b)
theorem dpAll_dropLast {K : PySem.W.Frag} {H : Hp} {ds : List PyData} {vs : List V} (h : DpAll K H vs ds) : DpAll K H vs.dropLast ds.dropLast := by
  rw [List.dropLast_eq_take, List.dropLast_eq_take, dpAll_len h]
  exact dpAll_take _ h
theorem dpAll_rev {K : PySem.W.Frag} {H : Hp} : ∀ {ds : List PyData} {vs : List V}, DpAll K H vs ds → DpAll K H vs.reverse ds.reverse
  | [], _, h => by cases h; exact .nil
  | d :: ds, _, h => by
    cases h with
    | cons a b =>
      rw [List.reverse_cons, List.reverse_cons]
      exact dpAll_app (dpAll_rev b) (.cons a .nil)

/-- a step of stable part and heap -/
structure Stp (H0 H H1 H' : Hp) : Prop where
  e0 : Same H0 H1
  e : Same H H'
  i : Same H1 H'
  nw : ∀ a o, H1 a = some o → (∃ u, H0 a = some u) ∨ H a = none
theorem Stp.rfl {H0 H : Hp} (i : Same H0 H) : Stp H0 H H0 H := ⟨Same.refl _, Same.refl _, i, fun a o h => .inl ⟨o, h⟩⟩
theorem Stp.trans {H0 H H1 H' H2 H'' : Hp} (a : Stp H0 H H1 H') (b : Stp H1 H' H2 H'') : Stp H0 H H2 H'' :=
  ⟨a.e0.trans b.e0, a.e.trans b.e, b.i, fun c o h => (b.nw c o h).elim (fun ⟨u, k⟩ => a.nw c u k) fun k => .inr (a.e.free k)⟩
theorem Stp.stay {H0 H H' : Hp} (i : Same H0 H) (e : Same H H') : Stp H0 H H0 H' := ⟨Same.refl _, e, i.trans e, fun a o h => .inl ⟨o, h⟩⟩
theorem same_new {H : Hp} {p : Addr} {o : HO} (h : H p = none) : Same H (upd H p o) := fun b x e => by
  rw [upd_ne (ne_of_none e h)]
  exact e
theorem Stp.new {H0 H : Hp} {p : Addr} {o : HO} (i : Same H0 H) (h : H p = none) : Stp H0 H (upd H0 p o) (upd H p o) :=
  ⟨same_new (i.free h), same_new h, fun b u e => by
    by_cases hb : b = p
    · subst hb; rw [upd_same] at e ⊢; exact e
    · rw [upd_ne hb] at e ⊢; exact i _ _ e, fun b u e => by
    by_cases hb : b = p
    · subst hb; exact .inr h
    · rw [upd_ne hb] at e; exact .inl ⟨u, e⟩⟩
/-- an object that is not in the stable part is taken into it -/
theorem Stp.freeze {H0 H H1 H' : Hp} {p : Addr} {o : HO} (s : Stp H0 H H1 H') (h : H p = none) (h1 : H1 p = none) (h2 : H' p = some o) : Stp H0 H (upd H1 p o) H' :=
  ⟨s.e0.trans (same_new h1), s.e, fun b u e => by
    by_cases hb : b = p
    · subst hb; rw [upd_same] at e; cases e; exact h2
    · rw [upd_ne hb] at e; exact s.i _ _ e, fun b u e => by
    by_cases hb : b = p
    · subst hb; exact .inr h
    · rw [upd_ne hb] at e; exact s.nw _ _ e⟩

/-! ### slots -/
inductive Sl where
  | val (d : PyData)
  | own (xs : List PyData)
abbrev En := List (Option Sl)
structure Rel (K : PySem.W.Frag) (σ : L2.St) (H0 H : Hp) (env : En) : Prop where
  i : Same H0 H
  len : σ.length = env.length
  val : ∀ (n : Nat) d, env[n]? = some (some (.val d)) → ∃ v, σ[n]? = some (some v) ∧ Dp K H0 v d
  own : ∀ (n : Nat) ds, env[n]? = some (some (.own ds)) → ∃ a xs, σ[n]? = some (some (.ref a)) ∧ H0 a = none ∧ H a = some (.lst xs) ∧ DpAll K H0 xs ds
  sep : ∀ (n m : Nat) ds es a, env[n]? = some (some (.own ds)) → env[m]? = some (some (.own es)) → σ[n]? = some (some (.ref a)) → σ[m]? = some (some (.ref a)) → n = m
section
variable {K : PySem.W.Frag} {σ : L2.St} {H0 H H1 H' : Hp} {env : En}
theorem Rel.step (r : Rel K σ H0 H env) (s : Stp H0 H H1 H') : Rel K σ H1 H' env :=
  ⟨s.i, r.len, fun n d e => let ⟨v, a, b⟩ := r.val n d e; ⟨v, a, b.up s.e0⟩, fun n ds e => let ⟨a, xs, h1, h2, h3, h4⟩ := r.own n ds e
    have h5 : H1 a = none := by
      cases q : H1 a with
      | none => rfl
      | some o =>
        rcases s.nw a o q with ⟨u, z⟩ | z
        · rw [h2] at z
          cases z
        · rw [h3] at z
          cases z
    ⟨a, xs, h1, h5, s.e _ _ h3, h4.up s.e0⟩, r.sep⟩
theorem set_get {α : Type} {l : List α} {i n : Nat} {x y : α} (h : (l.set i x)[n]? = some y) : (n = i ∧ i < l.length ∧ x = y) ∨ (n ≠ i ∧ l[n]? = some y) := by
  by_cases e : n = i
  · subst e
    by_cases hl : n < l.length
    · rw [List.getElem?_set_self hl] at h
      exact .inl ⟨rfl, hl, Option.some.inj h⟩
    · rw [List.getElem?_eq_none (by rw [List.length_set]; omega)] at h
      cases h
  · rw [List.getElem?_set_ne (Ne.symm e)] at h
    exact .inr ⟨e, h⟩
theorem Rel.setV (r : Rel K σ H0 H env) {i : Nat} {v : V} {d : PyData} (h : Dp K H0 v d) : Rel K (σ.set i (some v)) H0 H (env.set i (some (.val d))) := by
  refine ⟨r.i, by rw [List.length_set, List.length_set]; exact r.len, fun n d' e => ?_, fun n ds e => ?_, fun n m ds es a e1 e2 e3 e4 => ?_⟩
  · rcases set_get e with ⟨rfl, hl, q⟩ | ⟨hn, e⟩
    · cases q
      exact ⟨v, by rw [List.getElem?_set_self (by rw [r.len]; exact hl)], h⟩
    · obtain ⟨w, a, b⟩ := r.val n d' e
      exact ⟨w, by rw [List.getElem?_set_ne (Ne.symm hn)]; exact a, b⟩
  · rcases set_get e with ⟨rfl, hl, q⟩ | ⟨hn, e⟩
    · cases q
    · obtain ⟨a, xs, h1, h2⟩ := r.own n ds e
      exact ⟨a, xs, by rw [List.getElem?_set_ne (Ne.symm hn)]; exact h1, h2⟩
  · rcases set_get e1 with ⟨rfl, hl, q⟩ | ⟨hn, e1⟩
    · cases q
    · rcases set_get e2 with ⟨rfl, hl, q⟩ | ⟨hm, e2⟩
      · cases q
      · rw [List.getElem?_set_ne (Ne.symm hn)] at e3
        rw [List.getElem?_set_ne (Ne.symm hm)] at e4
        exact r.sep n m ds es a e1 e2 e3 e4
theorem Rel.setN (r : Rel K σ H0 H env) {i : Nat} : Rel K (σ.set i none) H0 H (env.set i none) := by
  refine ⟨r.i, by rw [List.length_set, List.length_set]; exact r.len, fun n d' e => ?_, fun n ds e => ?_, fun n m ds es a e1 e2 e3 e4 => ?_⟩
  · rcases set_get e with ⟨rfl, hl, q⟩ | ⟨hn, e⟩
    · cases q
    · obtain ⟨w, a, b⟩ := r.val n d' e
      exact ⟨w, by rw [List.getElem?_set_ne (Ne.symm hn)]; exact a, b⟩
  · rcases set_get e with ⟨rfl, hl, q⟩ | ⟨hn, e⟩
    · cases q
    · obtain ⟨a, xs, h1, h2⟩ := r.own n ds e
      exact ⟨a, xs, by rw [List.getElem?_set_ne (Ne.symm hn)]; exact h1, h2⟩
  · rcases set_get e1 with ⟨rfl, hl, q⟩ | ⟨hn, e1⟩
    · cases q
    · rcases set_get e2 with ⟨rfl, hl, q⟩ | ⟨hm, e2⟩
      · cases q
      · rw [List.getElem?_set_ne (Ne.symm hn)] at e3
        rw [List.getElem?_set_ne (Ne.symm hm)] at e4
        exact r.sep n m ds es a e1 e2 e3 e4
theorem Rel.setO (r : Rel K σ H0 H env) {i : Nat} {a : Addr} {xs : List V} {ds : List PyData} (h0 : H0 a = none) (h1 : H a = some (.lst xs)) (h2 : DpAll K H0 xs ds)
    (hs : ∀ (n : Nat) es, env[n]? = some (some (.own es)) → σ[n]? ≠ some (some (.ref a))) : Rel K (σ.set i (some (.ref a))) H0 H (env.set i (some (.own ds))) := by
  refine ⟨r.i, by rw [List.length_set, List.length_set]; exact r.len, fun n d' e => ?_, fun n ds' e => ?_, fun n m ds' es b e1 e2 e3 e4 => ?_⟩
  · rcases set_get e with ⟨rfl, hl, q⟩ | ⟨hn, e⟩
    · cases q
    · obtain ⟨w, a, b⟩ := r.val n d' e
      exact ⟨w, by rw [List.getElem?_set_ne (Ne.symm hn)]; exact a, b⟩
  · rcases set_get e with ⟨rfl, hl, q⟩ | ⟨hn, e⟩
    · cases q
      exact ⟨a, xs, by rw [List.getElem?_set_self (by rw [r.len]; exact hl)], h0, h1, h2⟩
    · obtain ⟨b, ys, h1, h2⟩ := r.own n ds' e
      exact ⟨b, ys, by rw [List.getElem?_set_ne (Ne.symm hn)]; exact h1, h2⟩
  · rcases set_get e1 with ⟨rfl, hl, q⟩ | ⟨hn, e1⟩
    · rcases set_get e2 with ⟨rfl, hl', q'⟩ | ⟨hm, e2⟩
      · rfl
      · rw [List.getElem?_set_self (by rw [r.len]; exact hl)] at e3
        rw [List.getElem?_set_ne (Ne.symm hm)] at e4
        cases e3
        exact (hs m es e2 e4).elim
    · rcases set_get e2 with ⟨rfl, hl, q⟩ | ⟨hm, e2⟩
      · rw [List.getElem?_set_self (by rw [r.len]; exact hl)] at e4
        rw [List.getElem?_set_ne (Ne.symm hn)] at e3
        cases e4
        exact (hs n ds' (by rcases set_get e1 with ⟨q1, _⟩ | ⟨_, q1⟩; exact absurd q1 hn; exact q1) e3).elim
      · rw [List.getElem?_set_ne (Ne.symm hn)] at e3
        rw [List.getElem?_set_ne (Ne.symm hm)] at e4
        exact r.sep n m ds' es b e1 e2 e3 e4
/-- an own list is written -/
theorem Rel.mut (r : Rel K σ H0 H env) {i : Nat} {a : Addr} {xs : List V} {ds es : List PyData} (hi : env[i]? = some (some (.own ds))) (ha : σ[i]? = some (some (.ref a))) (h2 : DpAll K H0 xs es) :
    Rel K σ H0 (upd H a (.lst xs)) (env.set i (some (.own es))) := by
  obtain ⟨a', xs', q1, q2, q3, q4⟩ := r.own i ds hi
  rw [ha] at q1
  cases q1
  refine ⟨fun b o e => ?_, by rw [List.length_set]; exact r.len, fun n d' e => ?_, fun n ds' e => ?_, fun n m ds' es' b e1 e2 e3 e4 => ?_⟩
  · rw [upd_ne (ne_of_none e q2)]
    exact r.i _ _ e
  · rcases set_get e with ⟨rfl, hl, q⟩ | ⟨hn, e⟩
    · cases q
    · exact r.val n d' e
  · rcases set_get e with ⟨rfl, hl, q⟩ | ⟨hn, e⟩
    · cases q
      exact ⟨a, xs, ha, q2, upd_same, h2⟩
    · obtain ⟨b, ys, h1, h2, h3, h4⟩ := r.own n ds' e
      refine ⟨b, ys, h1, h2, ?_, h4⟩
      rw [upd_ne (fun z => hn (r.sep n i ds' ds a e hi (by rw [h1, z]) ha))]
      exact h3
  · have old : ∀ (k : Nat) fs, (env.set i (some (Sl.own es)))[k]? = some (some (.own fs)) → ∃ gs, env[k]? = some (some (.own gs)) := fun k fs e => by
      rcases set_get e with ⟨rfl, hl, q⟩ | ⟨hn, e⟩
      · exact ⟨ds, hi⟩
      · exact ⟨fs, e⟩
    obtain ⟨g1, f1⟩ := old n ds' e1
    obtain ⟨g2, f2⟩ := old m es' e2
    exact r.sep n m g1 g2 b f1 f2 e3 e4
/-- a list that is in no slot is written (a comprehension's) -/
theorem Rel.other (r : Rel K σ H0 H env) {D : Addr} {o : HO} (h0 : H0 D = none) (hs : ∀ (n : Nat) es, env[n]? = some (some (.own es)) → σ[n]? ≠ some (some (.ref D))) : Rel K σ H0 (upd H D o) env := by
  refine ⟨fun b u e => ?_, r.len, r.val, fun n ds e => ?_, r.sep⟩
  · rw [upd_ne (ne_of_none e h0)]
    exact r.i _ _ e
  · obtain ⟨b, ys, h1, h2, h3, h4⟩ := r.own n ds e
    refine ⟨b, ys, h1, h2, ?_, h4⟩
    rw [upd_ne (fun z => hs n ds e (by rw [h1, z]))]
    exact h3
/-- an address that was free is in no own slot -/
theorem Rel.apart (r : Rel K σ H0 H env) {a : Addr} (h : H a = none) : ∀ (n : Nat) es, env[n]? = some (some (.own es)) → σ[n]? ≠ some (some (.ref a)) := fun n es e z => by
  obtain ⟨b, ys, h1, h2, h3, h4⟩ := r.own n es e
  rw [z] at h1
  cases h1
  rw [h] at h3
  cases h3
end

/-! ### kinds of results -/
abbrev KR (α : Type) := Hp → Hp → Hp → V → α → Prop
def RS (K : PySem.W.Frag) : KR PyData := fun _ H1 _ v d => Dp K H1 v d
def RU (K : PySem.W.Frag) : KR PyData := fun _ _ H' v d => Dp K H' v d
def RL (K : PySem.W.Frag) : KR (List PyData) := fun _ H1 H' v ds => ∃ a xs, v = .ref a ∧ SqL K H' a xs ∧ DpAll K H1 xs ds
def RM (K : PySem.W.Frag) : KR (List PyData) := fun _ H1 H' v ds => ∃ a xs, v = .ref a ∧ H' a = some (.lst xs) ∧ DpAll K H1 xs ds
def RO (K : PySem.W.Frag) : KR (List PyData) := fun H H1 H' v ds => ∃ a xs, v = .ref a ∧ H a = none ∧ H1 a = none ∧ H' a = some (.lst xs) ∧ DpAll K H1 xs ds
/-- the start may be earlier -/
def KA {α : Type} (R : KR α) : Prop := ∀ H H1 G G' v a, Same H H1 → R H1 G G' v a → R H G G' v a
theorem ka_S {K : PySem.W.Frag} : KA (RS K) := fun _ _ _ _ _ _ _ h => h
theorem ka_U {K : PySem.W.Frag} : KA (RU K) := fun _ _ _ _ _ _ _ h => h
theorem ka_L {K : PySem.W.Frag} : KA (RL K) := fun _ _ _ _ _ _ _ h => h
theorem ka_M {K : PySem.W.Frag} : KA (RM K) := fun _ _ _ _ _ _ _ h => h
theorem ka_O {K : PySem.W.Frag} : KA (RO K) := fun _ _ _ _ _ _ e ⟨a, xs, h1, h2, h3⟩ => ⟨a, xs, h1, e.free h2, h3⟩

abbrev DE (α : Type) := En → (α → Prop) → Prop
def SE (K : PySem.W.Frag) {α : Type} (R : KR α) (t : TE) (de : DE α) : Prop :=
  ∀ σ H0 H env, Rel K σ H0 H env → ∀ (q : α → Prop) (Q : VK), de env q → (∀ H1 H' v a, Stp H0 H H1 H' → R H H1 H' v a → q a → Q v H') → t σ H Q
def PX (X : Cx) {α : Type} (R : KR α) (e : Expr) (de : DE α) : Prop := ∃ t, PE X e t ∧ SE X.K R t de
def ST (K : PySem.W.Frag) (t : TT) (dt : DE Bool) : Prop :=
  ∀ σ H0 H env, Rel K σ H0 H env → ∀ (q : Bool → Prop) (Q : Bool → Hp → Prop), dt env q → (∀ H1 H' b, Stp H0 H H1 H' → q b → Q b H') → t σ H Q
def PXT (X : Cx) (e : Expr) (dt : DE Bool) : Prop := ∃ t, PT X e t ∧ ST X.K t dt
def PXW (X : Cx) (e : Expr) (dt : DE Bool) : Prop := ∃ t, PW X e t ∧ ST X.K t dt
def SA (K : PySem.W.Frag) (n : Nat) (t : TA) (da : DE (List PyData)) : Prop :=
  ∀ σ H0 H env, Rel K σ H0 H env → ∀ (q : List PyData → Prop) (Q : List V → Hp → Prop), da env q → (∀ H1 H' vs ds, Stp H0 H H1 H' → vs.length = n → DpAll K H1 vs ds → q ds → Q vs H') → t σ H Q
def PXA (X : Cx) (es : List Expr) (da : DE (List PyData)) : Prop := ∃ t, PA X es t ∧ SA X.K es.length t da
/-- arguments that may be read now -/
def SB (K : PySem.W.Frag) (n : Nat) (t : TA) (da : DE (List PyData)) : Prop :=
  ∀ σ H0 H env, Rel K σ H0 H env → ∀ (q : List PyData → Prop) (Q : List V → Hp → Prop), da env q → (∀ H1 H' vs ds, Stp H0 H H1 H' → vs.length = n → DpAll K H' vs ds → q ds → Q vs H') → t σ H Q
def PXB (X : Cx) (es : List Expr) (da : DE (List PyData)) : Prop := ∃ t, PA X es t ∧ SB X.K es.length t da
section
variable {X : Cx} {e : Expr}
theorem px_SU {d : DE PyData} (h : PX X (RS X.K) e d) : PX X (RU X.K) e d :=
  let ⟨t, p, s⟩ := h
  ⟨t, p, fun σ H0 H env r q Q hd k => s σ H0 H env r q Q hd fun H1 H' v a st hr hq => k H1 H' v a st (Dp.up hr st.i) hq⟩
theorem px_OM {d : DE (List PyData)} (h : PX X (RO X.K) e d) : PX X (RM X.K) e d :=
  let ⟨t, p, s⟩ := h
  ⟨t, p, fun σ H0 H env r q Q hd k => s σ H0 H env r q Q hd fun H1 H' v a st ⟨b, xs, h1, _, _, h2, h3⟩ hq => k H1 H' v a st ⟨b, xs, h1, h2, h3⟩ hq⟩
theorem px_ML {d : DE (List PyData)} (h : PX X (RM X.K) e d) : PX X (RL X.K) e d :=
  let ⟨t, p, s⟩ := h
  ⟨t, p, fun σ H0 H env r q Q hd k => s σ H0 H env r q Q hd fun H1 H' v a st ⟨b, xs, h1, h2, h3⟩ hq => k H1 H' v a st ⟨b, xs, h1, SqL.of h2, h3⟩ hq⟩
theorem px_OL {d : DE (List PyData)} (h : PX X (RO X.K) e d) : PX X (RL X.K) e d := px_ML (px_OM h)
/-- a list as data -/
def dAsD (d : DE (List PyData)) : DE PyData := fun env q => d env fun ds => q (.list ds)
theorem px_LU {d : DE (List PyData)} (h : PX X (RL X.K) e d) : PX X (RU X.K) e (dAsD d) :=
  let ⟨t, p, s⟩ := h
  ⟨t, p, fun σ H0 H env r q Q hd k => s σ H0 H env r _ Q hd fun H1 H' v a st ⟨b, xs, h1, h2, h3⟩ hq => k H1 H' v _ st (by subst h1; exact Dp.lst h2 (h3.up st.i)) hq⟩
theorem px_OU {d : DE (List PyData)} (h : PX X (RO X.K) e d) : PX X (RU X.K) e (dAsD d) := px_LU (px_OL h)
/-- a fresh list is taken into the stable part -/
theorem px_OS {d : DE (List PyData)} (h : PX X (RO X.K) e d) : PX X (RS X.K) e (dAsD d) :=
  let ⟨t, p, s⟩ := h
  ⟨t, p, fun σ H0 H env r q Q hd k => s σ H0 H env r _ Q hd fun H1 H' v a st ⟨b, xs, h1, h2, h3, h4, h5⟩ hq =>
    k (upd H1 b (.lst xs)) H' v _ (st.freeze h2 h3 h4) (by
      subst h1
      exact Dp.lst (SqL.of upd_same) (h5.up (same_new h3))) hq⟩
/-- data that is a list -/
def dAsL (d : DE PyData) : DE (List PyData) := fun env q => d env fun x => match x with
  | .list ds => q ds
  | _ => False
theorem px_SL {d : DE PyData} (h : PX X (RS X.K) e d) : PX X (RL X.K) e (dAsL d) :=
  let ⟨t, p, s⟩ := h
  ⟨t, p, fun σ H0 H env r q Q hd k => s σ H0 H env r _ Q hd fun H1 H' v a st hr hq => by
    cases a with
    | list ds =>
      have hr' : Dp X.K H1 v (.list ds) := hr
      cases hr' with
      | lst a1 a2 => exact k H1 H' _ ds st ⟨_, _, rfl, Same.seq st.i a1, a2⟩ hq
    | _ => exact False.elim hq⟩
end
end DL
namespace DL
open PySem PySem.Spec PyProof.Rows L2
/-! ### names and constants -/
def dV (i : Nat) : DE PyData := fun env q => match env[i]? with
  | some (some (.val d)) => q d
  | _ => False
/-- a slot of either kind, as data -/
def dVU (i : Nat) : DE PyData := fun env q => match env[i]? with
  | some (some (.val d)) => q d
  | some (some (.own ds)) => q (.list ds)
  | _ => False
/-- an own list -/
def dVM (i : Nat) : DE (List PyData) := fun env q => match env[i]? with
  | some (some (.own ds)) => q ds
  | _ => False
def dC (d : PyData) : DE PyData := fun _ q => q d
section
variable {X : Cx} {e a b : Expr}
theorem px_v {i : Nat} (h : PE X e (tVar i)) : PX X (RS X.K) e (dV i) :=
  ⟨_, h, fun σ H0 H env r q Q hd k => by
    unfold dV at hd
    split at hd
    · rename_i d hx
      obtain ⟨v, h1, h2⟩ := r.val i d hx
      exact ⟨v, h1, k H0 H v d (.rfl r.i) h2 hd⟩
    · exact hd.elim⟩
theorem px_vU {i : Nat} (h : PE X e (tVar i)) : PX X (RU X.K) e (dVU i) :=
  ⟨_, h, fun σ H0 H env r q Q hd k => by
    unfold dVU at hd
    split at hd
    · rename_i d hx
      obtain ⟨v, h1, h2⟩ := r.val i d hx
      exact ⟨v, h1, k H0 H v d (.rfl r.i) (Dp.up h2 r.i) hd⟩
    · rename_i d hx
      obtain ⟨b, xs, h1, h2, h3, h4⟩ := r.own i d hx
      exact ⟨_, h1, k H0 H _ _ (.rfl r.i) (Dp.lst (SqL.of h3) (h4.up r.i)) hd⟩
    · exact hd.elim⟩
theorem px_vM {i : Nat} (h : PE X e (tVar i)) : PX X (RM X.K) e (dVM i) :=
  ⟨_, h, fun σ H0 H env r q Q hd k => by
    unfold dVM at hd
    split at hd
    · rename_i d hx
      obtain ⟨b, xs, h1, h2, h3, h4⟩ := r.own i d hx
      exact ⟨_, h1, k H0 H _ _ (.rfl r.i) ⟨b, xs, rfl, h3, h4⟩ hd⟩
    · exact hd.elim⟩
theorem px_c {v : V} {d : PyData} (h : PE X e (tC v)) (hd : ∀ H, Dp X.K H v d) : PX X (RS X.K) e (dC d) :=
  ⟨_, h, fun σ H0 H env r q Q hq k => k H0 H v d (.rfl r.i) (hd _) hq⟩
theorem px_int {i : Int} {j pos} : PX X (RS X.K) (.Constant (.int i) j pos) (dC (.int i)) := px_c pe_int fun _ => .int i
theorem px_bl {i : Bool} {j pos} : PX X (RS X.K) (.Constant (.bool i) j pos) (dC (.bool i)) := px_c pe_bl fun _ => .bl i
theorem px_non {j pos} : PX X (RS X.K) (.Constant .none j pos) (dC .none) := px_c pe_non fun _ => .non
theorem px_str {x j pos} : PX X (RS X.K) (.Constant (.str x) j pos) (dC (.str x)) := px_c pe_str fun _ => .str x

/-! ### scalars; operators -/
inductive Sc : V → PyData → Prop
  | non : Sc .non .none
  | bl (b : Bool) : Sc (.bl b) (.bool b)
  | int (i : Int) : Sc (.int i) (.int i)
  | str (x : Str) : Sc (.str x) (.str x)
theorem Sc.dp {v : V} {d : PyData} (h : Sc v d) {K : PySem.W.Frag} {H : Hp} : Dp K H v d := by
  cases h
  · exact .non
  · exact .bl _
  · exact .int _
  · exact .str _
abbrev D2 := PyData → PyData → (PyData → Prop) → Prop
abbrev D1 := PyData → (PyData → Prop) → Prop
def d2 (f : D2) (da db : DE PyData) : DE PyData := fun env q => da env fun d => db env fun e => f d e q
def d1 (f : D1) (da : DE PyData) : DE PyData := fun env q => da env fun d => f d q
def OpD (K : PySem.W.Frag) (r : R2) (f : D2) : Prop := ∀ (H : Hp) (x y : V) (d e : PyData) (q : PyData → Prop) (Q : VK), Dp K H x d → Dp K H y e → f d e q → (∀ v b, Sc v b → q b → Q v H) → r x y H Q
theorem s_op2 {r : R2} {f : D2} {ta tb : TE} {da db : DE PyData} {K : PySem.W.Frag} (hf : OpD K r f) (ha : SE K (RU K) ta da) (hb : SE K (RU K) tb db) : SE K (RS K) (tOp r ta tb) (d2 f da db) :=
  fun σ H0 H env rr q Q hd k => ha σ H0 H env rr _ _ hd fun H1 H' v d st hv hq => hb σ H1 H' env (rr.step st) _ _ hq fun H2 H'' w e st2 hw hq2 =>
    hf H'' v w d e q _ (Dp.up hv st2.e) hw hq2 fun v b sc hqb => k H2 H'' v b (st.trans st2) sc.dp hqb
theorem px_bin {op : Operator} {r : R2} {f : D2} {da db : DE PyData} {pos : Pos} (ho : OpR X (binaryOp op) r) (hf : OpD X.K r f) (ha : PX X (RU X.K) a da) (hb : PX X (RU X.K) b db) : PX X (RS X.K) (.BinOp a op b pos) (d2 f da db) :=
  let ⟨_, p1, s1⟩ := ha
  let ⟨_, p2, s2⟩ := hb
  ⟨_, pe_op ho p1 p2, s_op2 hf s1 s2⟩
theorem px_cmp {op : CmpOp} {r : R2} {f : D2} {da db : DE PyData} {pos : Pos} (ho : OpR X (compareOp op) r) (hf : OpD X.K r f) (ha : PX X (RU X.K) a da) (hb : PX X (RU X.K) b db) (hm : behindInMarks op b = false) : PX X (RS X.K) (.Compare a [op] [b] pos) (d2 f da db) :=
  let ⟨_, p1, s1⟩ := ha
  let ⟨_, p2, s2⟩ := hb
  ⟨_, pe_cmpR ho p1 p2 hm, s_op2 hf s1 s2⟩
/-- a value that is a bool, as a test -/
def dB (d : DE PyData) : DE Bool := fun env q => d env fun x => match x with
  | .bool b => q b
  | _ => False
theorem s_test {t : TE} {d : DE PyData} {K : PySem.W.Frag} (h : SE K (RU K) t d) : ST K (tTest t) (dB d) :=
  fun σ H0 H env rr q Q hd k => h σ H0 H env rr _ _ hd fun H1 H' v x st hv hq => by
    cases x with
    | bool b =>
      have hv' : Dp K H' v (.bool b) := hv
      cases hv'
      exact ⟨b, rfl, k H1 H' b st hq⟩
    | _ => exact hq.elim
theorem SE.su {t : TE} {d : DE PyData} {K : PySem.W.Frag} (h : SE K (RS K) t d) : SE K (RU K) t d :=
  fun σ H0 H env r q Q hd k => h σ H0 H env r q Q hd fun H1 H' v a st hr hq => k H1 H' v a st (Dp.up hr st.i) hq
theorem pxt_cmp {op : CmpOp} {r : R2} {f : D2} {da db : DE PyData} {pos : Pos} (ho : OpR X (compareOp op) r) (hf : OpD X.K r f) (ha : PX X (RU X.K) a da) (hb : PX X (RU X.K) b db) (hm : behindInMarks op b = false) : PXT X (.Compare a [op] [b] pos) (dB (d2 f da db)) :=
  let ⟨_, p1, s1⟩ := ha
  let ⟨_, p2, s2⟩ := hb
  ⟨_, pt_cmpR ho p1 p2 hm, s_test (s_op2 hf s1 s2).su⟩
theorem pxt_val {d : DE PyData} (h : PX X (RU X.K) e d) (he : ∀ whole, isTrue e X.env whole = (do let v ← whole; standAt e.pos; holding [v] (truthy v)) := by intro _; rfl) : PXT X e (dB d) :=
  let ⟨_, p1, s1⟩ := h
  ⟨_, pt_val p1 he, s_test s1⟩
def OpD1 (K : PySem.W.Frag) (r : V → Hp → VK → Prop) (f : D1) : Prop := ∀ (H : Hp) (x : V) (d : PyData) (q : PyData → Prop) (Q : VK), Dp K H x d → f d q → (∀ v b, Sc v b → q b → Q v H) → r x H Q
theorem px_un {op : UnaryOp} {r : V → Hp → VK → Prop} {f : D1} {da : DE PyData} {pos : Pos} (ho : UnR X (unaryOp op) r) (hf : OpD1 X.K r f) (ha : PX X (RU X.K) a da) : PX X (RS X.K) (.UnaryOp op a pos) (d1 f da) :=
  let ⟨_, p1, s1⟩ := ha
  ⟨_, pe_un ho p1, fun σ H0 H env rr q Q hd k => s1 σ H0 H env rr _ _ hd fun H1 H' v d st hv hq => hf H' v d q _ hv hq fun v b sc hqb => k H1 H' v b st sc.dp hqb⟩

/-! the operators -/
def fAdd : D2 := fun d e q => match d, e with
  | .int i, .int j => q (.int (i + j))
  | .str x, .str y => x.length + y.length ≤ sizeLine ∧ q (.str (x ++ y))
  | _, _ => False
def fSub : D2 := fun d e q => match d, e with
  | .int i, .int j => q (.int (i - j))
  | _, _ => False
def fMul : D2 := fun d e q => match d, e with
  | .int i, .int j => CMul i j ∧ q (.int (i * j))
  | _, _ => False
def fMod : D2 := fun d e q => match d, e with
  | .int i, .int j => 0 < j ∧ q (.int (i % j))
  | _, _ => False
def fDiv : D2 := fun d e q => match d, e with
  | .int i, .int j => CDiv i j ∧ q (.int (i / j))
  | _, _ => False
def fPow : D2 := fun d e q => match d, e with
  | .int i, .int j => CPow i j ∧ q (.int (i ^ j.toNat))
  | _, _ => False
def fNeg : D1 := fun d q => match d with
  | .int i => q (.int (-i))
  | _ => False
/-- == of flat data; else by eqv -/
def fEq : D2 := fun d e q => match d, e with
  | .int i, .int j => q (.bool (decide (i = j)))
  | .str x, .str y => q (.bool (decide (x = y)))
  | .bool i, .bool j => q (.bool (decide (i = j)))
  | d, e => SeqAt.shaped d = true ∧ SeqAt.shaped e = true ∧ q (.bool (PyData.eqv d e))
def fNe : D2 := fun d e q => match d, e with
  | .int i, .int j => q (.bool (!decide (i = j)))
  | .str x, .str y => q (.bool (!decide (x = y)))
  | .bool i, .bool j => q (.bool (!decide (i = j)))
  | d, e => SeqAt.shaped d = true ∧ SeqAt.shaped e = true ∧ q (.bool (!PyData.eqv d e))
def fLt : D2 := fun d e q => match d, e with
  | .int i, .int j => q (.bool (decide (i < j)))
  | _, _ => False
def fLe : D2 := fun d e q => match d, e with
  | .int i, .int j => q (.bool (decide (i ≤ j)))
  | _, _ => False
def fGt : D2 := fun d e q => match d, e with
  | .int i, .int j => q (.bool (decide (j < i)))
  | _, _ => False
def fGe : D2 := fun d e q => match d, e with
  | .int i, .int j => q (.bool (decide (j ≤ i)))
  | _, _ => False
def isN : PyData → Bool
  | .none => true
  | _ => false
def fIsN : D2 := fun d e q => match e with
  | .none => q (.bool (isN d))
  | _ => False
def fNotN : D2 := fun d e q => match e with
  | .none => q (.bool (!isN d))
  | _ => False
theorem od_ints {K : PySem.W.Frag} {g : Int → Int → V} {h : Int → Int → PyData} (hs : ∀ i j, Sc (g i j) (h i j)) : OpD K (rI0 g) (fun d e q => match d, e with
  | .int i, .int j => q (h i j)
  | _, _ => False) := by
  intro H x y d e q Q hx hy hf k
  cases d <;> try exact hf.elim
  cases e <;> try exact hf.elim
  cases hx
  cases hy
  exact ⟨_, _, rfl, rfl, k _ _ (hs _ _) hf⟩
theorem od_intsC {K : PySem.W.Frag} {C : Int → Int → Prop} {g : Int → Int → V} {h : Int → Int → PyData} (hs : ∀ i j, Sc (g i j) (h i j)) : OpD K (rI C g) (fun d e q => match d, e with
  | .int i, .int j => C i j ∧ q (h i j)
  | _, _ => False) := by
  intro H x y d e q Q hx hy hf k
  cases d <;> try exact hf.elim
  cases e <;> try exact hf.elim
  cases hx
  cases hy
  exact ⟨_, _, rfl, rfl, hf.1, k _ _ (hs _ _) hf.2⟩
theorem or_add : OpR X (binaryOp .Add) (fun x y H Q => rI0 (fun i j => .int (i + j)) x y H Q ∨ ∃ i j, x = .str i ∧ y = .str j ∧ i.length + j.length ≤ sizeLine ∧ Q (.str (i ++ j)) H) := OpR.or op_add op_add_str
theorem od_add {K : PySem.W.Frag} : OpD K (fun x y H Q => rI0 (fun i j => .int (i + j)) x y H Q ∨ ∃ i j, x = .str i ∧ y = .str j ∧ i.length + j.length ≤ sizeLine ∧ Q (.str (i ++ j)) H) fAdd := by
  intro H x y d e q Q hx hy hf k
  cases d <;> cases e <;> first
    | exact hf.elim
    | (cases hx; cases hy; exact .inl ⟨_, _, rfl, rfl, k _ _ (.int _) hf⟩)
    | (cases hx; cases hy; exact .inr ⟨_, _, rfl, rfl, hf.1, k _ _ (.str _) hf.2⟩)
theorem od_sub {K : PySem.W.Frag} : OpD K (rI0 fun i j => .int (i - j)) fSub := od_ints fun _ _ => .int _
theorem od_mul {K : PySem.W.Frag} : OpD K (rI CMul fun i j => .int (i * j)) fMul := od_intsC fun _ _ => .int _
theorem od_mod {K : PySem.W.Frag} : OpD K (rI (fun _ j => 0 < j) fun i j => .int (i % j)) fMod := od_intsC (C := fun _ j => 0 < j) fun _ _ => .int _
theorem od_div {K : PySem.W.Frag} : OpD K (rI CDiv fun i j => .int (i / j)) fDiv := od_intsC fun _ _ => .int _
theorem od_pow {K : PySem.W.Frag} : OpD K (rI CPow fun i j => .int (i ^ j.toNat)) fPow := od_intsC fun _ _ => .int _
theorem od_neg {K : PySem.W.Frag} : OpD1 K (rU fun i => .int (-i)) fNeg := by
  intro H x d q Q hx hf k
  cases d <;> try exact hf.elim
  cases hx
  exact ⟨_, rfl, k _ _ (.int _) hf⟩
theorem or_eq (hu : X.A.units + 64 < cLine) : OpR X (compareOp .Eq) (fun x y H Q => rEq x y H Q ∨ rEqD X.K x y H Q) := OpR.or op_eq (op_eqD hu)
theorem or_ne (hu : X.A.units + 64 < cLine) : OpR X (compareOp .NotEq) (fun x y H Q => rNe x y H Q ∨ rNeD X.K x y H Q) := OpR.or op_ne (op_neD hu)
theorem dcI {i j : Int} : decide (V.int i = V.int j) = decide (i = j) := by rw [dec_int]; rfl
theorem dcS {i j : Str} : decide (V.str i = V.str j) = decide (i = j) := decide_eq_decide.mpr ⟨fun h => V.str.inj h, fun h => by rw [h]⟩
theorem dcB {i j : Bool} : decide (V.bl i = V.bl j) = decide (i = j) := decide_eq_decide.mpr ⟨fun h => V.bl.inj h, fun h => by rw [h]⟩
theorem od_eq {K : PySem.W.Frag} : OpD K (fun x y H Q => rEq x y H Q ∨ rEqD K x y H Q) fEq := by
  intro H x y d e q Q hx hy hf k
  cases d <;> cases e <;> first
    | exact .inr ⟨_, _, hx, hy, hf.1, hf.2.1, k _ _ (.bl _) hf.2.2⟩
    | (cases hx; cases hy; refine .inl ⟨rfl, ?_⟩; first | rw [dcI] | rw [dcS] | rw [dcB]); (exact k _ _ (.bl _) hf)
theorem od_ne {K : PySem.W.Frag} : OpD K (fun x y H Q => rNe x y H Q ∨ rNeD K x y H Q) fNe := by
  intro H x y d e q Q hx hy hf k
  cases d <;> cases e <;> first
    | exact .inr ⟨_, _, hx, hy, hf.1, hf.2.1, k _ _ (.bl _) hf.2.2⟩
    | (cases hx; cases hy; refine .inl ⟨rfl, ?_⟩; first | rw [dcI] | rw [dcS] | rw [dcB]); (exact k _ _ (.bl _) hf)
theorem od_lt {K : PySem.W.Frag} : OpD K (rI0 fun i j => .bl (decide (i < j))) fLt := od_ints fun _ _ => .bl _
theorem od_le {K : PySem.W.Frag} : OpD K (rI0 fun i j => .bl (decide (i ≤ j))) fLe := od_ints fun _ _ => .bl _
theorem od_gt {K : PySem.W.Frag} : OpD K (rI0 fun i j => .bl (decide (j < i))) fGt := od_ints fun _ _ => .bl _
theorem od_ge {K : PySem.W.Frag} : OpD K (rI0 fun i j => .bl (decide (j ≤ i))) fGe := od_ints fun _ _ => .bl _
theorem isN_of {K : PySem.W.Frag} {H : Hp} {x : V} {d : PyData} (h : Dp K H x d) : decide (x = .non) = isN d := by
  cases h <;> first | rfl | exact decide_eq_false (fun z => nomatch z)
theorem od_isN {K : PySem.W.Frag} : OpD K (fun x y H Q => y = .non ∧ Q (.bl (decide (x = .non))) H) fIsN := by
  intro H x y d e q Q hx hy hf k
  cases e <;> try exact hf.elim
  cases hy
  refine ⟨rfl, ?_⟩
  rw [isN_of hx]
  exact k _ _ (.bl _) hf
theorem od_notN {K : PySem.W.Frag} : OpD K (fun x y H Q => y = .non ∧ Q (.bl (!decide (x = .non))) H) fNotN := by
  intro H x y d e q Q hx hy hf k
  cases e <;> try exact hf.elim
  cases hy
  refine ⟨rfl, ?_⟩
  rw [isN_of hx]
  exact k _ _ (.bl _) hf
/-- a < b < c -/
def dChain (f g : D2) (da db dc : DE PyData) : DE PyData := fun env q => da env fun d => db env fun e => f d e fun z => match z with
  | .bool true => dc env fun c => g e c q
  | .bool false => q (.bool false)
  | _ => False
theorem s_chain {r r' : R2} {f g : D2} {ta tb tc : TE} {da db dc : DE PyData} {K : PySem.W.Frag} (hf : OpD K r f) (hg : OpD K r' g) (ha : SE K (RU K) ta da) (hb : SE K (RU K) tb db) (hc : SE K (RU K) tc dc) : SE K (RS K) (tChain r r' ta tb tc) (dChain f g da db dc) :=
  fun σ H0 H env rr q Q hd k => ha σ H0 H env rr _ _ hd fun H1 H' v d st hv hq => hb σ H1 H' env (rr.step st) _ _ hq fun H2 H'' w e st2 hw hq2 =>
    hf H'' v w d e _ _ (Dp.up hv st2.e) hw hq2 fun z b sc hz => by
      have st3 := st.trans st2
      cases sc with
      | bl b =>
        refine ⟨b, rfl, ?_⟩
        cases b with
        | true =>
          rw [if_pos rfl]
          exact hc σ H2 H'' env (rr.step st3) _ _ hz fun H3 H3' u c st4 hu hq3 => hg H3' w u e c q _ (Dp.up hw st4.e) hu hq3 fun z b sc hqb => k H3 H3' z b (st3.trans st4) sc.dp hqb
        | false =>
          rw [if_neg Bool.false_ne_true]
          exact k H2 H'' _ _ st3 (.bl false) hz
      | _ => exact hz.elim
theorem px_chain {op op' : CmpOp} {r r' : R2} {f g : D2} {c : Expr} {da db dc : DE PyData} {pos : Pos} (ho : OpR X (compareOp op) r) (ho' : OpR X (compareOp op') r') (hf : OpD X.K r f) (hg : OpD X.K r' g) (ha : PX X (RU X.K) a da) (hb : PX X (RU X.K) b db) (hc : PX X (RU X.K) c dc)
    (hm : lastMarks [op, op'] [b, c] = false := by with_unfolding_all rfl) : PX X (RS X.K) (.Compare a [op, op'] [b, c] pos) (dChain f g da db dc) :=
  let ⟨_, p1, s1⟩ := ha
  let ⟨_, p2, s2⟩ := hb
  let ⟨_, p3, s3⟩ := hc
  ⟨_, pe_chain ho ho' p1 p2 p3 hm, s_chain hf hg s1 s2 s3⟩
theorem pxt_chain {op op' : CmpOp} {r r' : R2} {f g : D2} {c : Expr} {da db dc : DE PyData} {pos : Pos} (ho : OpR X (compareOp op) r) (ho' : OpR X (compareOp op') r') (hf : OpD X.K r f) (hg : OpD X.K r' g) (ha : PX X (RU X.K) a da) (hb : PX X (RU X.K) b db) (hc : PX X (RU X.K) c dc)
    (hm : lastMarks [op, op'] [b, c] = false := by with_unfolding_all rfl) : PXT X (.Compare a [op, op'] [b, c] pos) (dB (dChain f g da db dc)) :=
  let ⟨_, p1, s1⟩ := ha
  let ⟨_, p2, s2⟩ := hb
  let ⟨_, p3, s3⟩ := hc
  ⟨_, pt_chain ho ho' p1 p2 p3 hm, s_test (s_chain hf hg s1 s2 s3).su⟩

/-! ### and, or, not -/
def dAnd (a b : DE Bool) : DE Bool := fun env q => a env fun c => (c = true → b env q) ∧ (c = false → q false)
def dOr (a b : DE Bool) : DE Bool := fun env q => a env fun c => (c = true → q true) ∧ (c = false → b env q)
def dNot (a : DE Bool) : DE Bool := fun env q => a env fun c => q (!c)
variable {dt du : DE Bool} {rest : List Expr} {pos : Pos}
theorem pxw_and1 (h : PXT X a dt) : PXW X (.BoolOp .And [a] pos) dt := let ⟨_, p, s⟩ := h; ⟨_, pw_and1 p, s⟩
theorem pxw_or1 (h : PXT X a dt) : PXW X (.BoolOp .Or [a] pos) dt := let ⟨_, p, s⟩ := h; ⟨_, pw_or1 p, s⟩
theorem pxw_and (ha : PXT X a dt) (hb : PXW X (.BoolOp .And (b :: rest) pos) du) : PXW X (.BoolOp .And (a :: b :: rest) pos) (dAnd dt du) :=
  let ⟨_, p1, s1⟩ := ha
  let ⟨_, p2, s2⟩ := hb
  ⟨_, pw_and p1 p2, fun σ H0 H env rr q Q hd k => s1 σ H0 H env rr _ _ hd fun H1 H' c st hq => by
    cases c with
    | true =>
      rw [if_pos rfl]
      exact s2 σ H1 H' env (rr.step st) q Q (hq.1 rfl) fun H2 H'' b st2 hb => k H2 H'' b (st.trans st2) hb
    | false =>
      rw [if_neg Bool.false_ne_true]
      exact k H1 H' false st (hq.2 rfl)⟩
theorem pxw_or (ha : PXT X a dt) (hb : PXW X (.BoolOp .Or (b :: rest) pos) du) : PXW X (.BoolOp .Or (a :: b :: rest) pos) (dOr dt du) :=
  let ⟨_, p1, s1⟩ := ha
  let ⟨_, p2, s2⟩ := hb
  ⟨_, pw_or p1 p2, fun σ H0 H env rr q Q hd k => s1 σ H0 H env rr _ _ hd fun H1 H' c st hq => by
    cases c with
    | false =>
      rw [if_neg Bool.false_ne_true]
      exact s2 σ H1 H' env (rr.step st) q Q (hq.2 rfl) fun H2 H'' b st2 hb => k H2 H'' b (st.trans st2) hb
    | true =>
      rw [if_pos rfl]
      exact k H1 H' true st (hq.1 rfl)⟩
theorem pxw_t (h : PXW X e dt) : PXT X e dt := let ⟨_, p, s⟩ := h; ⟨_, p.pt, s⟩
theorem pxt_not (h : PXT X a dt) : PXT X (.UnaryOp .Not a pos) (dNot dt) :=
  let ⟨_, p, s⟩ := h
  ⟨_, pt_not p, fun σ H0 H env rr q Q hd k => s σ H0 H env rr _ _ hd fun H1 H' c st hq => k H1 H' _ st hq⟩
/-- .. as values -/
def dAndV (a b : DE PyData) : DE PyData := fun env q => dB a env fun c => (c = true → b env q) ∧ (c = false → q (.bool false))
def dOrV (a b : DE PyData) : DE PyData := fun env q => dB a env fun c => (c = true → q (.bool true)) ∧ (c = false → b env q)
def dNotV (a : DE PyData) : DE PyData := fun env q => dB a env fun c => q (.bool (!c))
variable {da db : DE PyData}
theorem px_one {op} (h : PX X (RS X.K) a da) : PX X (RS X.K) (.BoolOp op [a] pos) da := let ⟨_, p, s⟩ := h; ⟨_, pe_one p, s⟩
theorem s_bool {K : PySem.W.Frag} {t : TE} {d : DE PyData} (h : SE K (RU K) t d) {σ : L2.St} {H0 H : Hp} {env : En} (rr : Rel K σ H0 H env) {q : Bool → Prop} {Q : VK} (hd : dB d env q) (k : ∀ H1 H' b, Stp H0 H H1 H' → q b → Q (.bl b) H') : t σ H Q :=
  h σ H0 H env rr _ _ hd fun H1 H' v x st hv hq => by
    cases x with
    | bool b =>
      have hv' : Dp K H' v (.bool b) := hv
      cases hv'
      exact k H1 H' b st hq
    | _ => exact hq.elim
theorem px_and (ha : PX X (RU X.K) a da) (hb : PX X (RS X.K) (.BoolOp .And (b :: rest) pos) db) : PX X (RS X.K) (.BoolOp .And (a :: b :: rest) pos) (dAndV da db) :=
  let ⟨_, p1, s1⟩ := ha
  let ⟨_, p2, s2⟩ := hb
  ⟨_, pe_and p1 p2, fun σ H0 H env rr q Q hd k => s_bool s1 rr hd fun H1 H' c st hq => ⟨c, rfl, by
    cases c with
    | true =>
      rw [if_pos rfl]
      exact s2 σ H1 H' env (rr.step st) q Q (hq.1 rfl) fun H2 H'' v b st2 hv hb => k H2 H'' v b (st.trans st2) hv hb
    | false =>
      rw [if_neg Bool.false_ne_true]
      exact k H1 H' _ _ st (.bl false) (hq.2 rfl)⟩⟩
theorem px_or (ha : PX X (RU X.K) a da) (hb : PX X (RS X.K) (.BoolOp .Or (b :: rest) pos) db) : PX X (RS X.K) (.BoolOp .Or (a :: b :: rest) pos) (dOrV da db) :=
  let ⟨_, p1, s1⟩ := ha
  let ⟨_, p2, s2⟩ := hb
  ⟨_, pe_or p1 p2, fun σ H0 H env rr q Q hd k => s_bool s1 rr hd fun H1 H' c st hq => ⟨c, rfl, by
    cases c with
    | false =>
      rw [if_neg Bool.false_ne_true]
      exact s2 σ H1 H' env (rr.step st) q Q (hq.2 rfl) fun H2 H'' v b st2 hv hb => k H2 H'' v b (st.trans st2) hv hb
    | true =>
      rw [if_pos rfl]
      exact k H1 H' _ _ st (.bl true) (hq.1 rfl)⟩⟩
theorem px_not (ha : PX X (RU X.K) a da) : PX X (RS X.K) (.UnaryOp .Not a pos) (dNotV da) :=
  let ⟨_, p1, s1⟩ := ha
  ⟨_, pe_not p1, fun σ H0 H env rr q Q hd k => s_bool s1 rr hd fun H1 H' c st hq => ⟨c, rfl, k H1 H' _ _ st (.bl _) hq⟩⟩

/-! ### arguments, displays -/
def dNil : DE (List PyData) := fun _ q => q []
def dCons (da : DE PyData) (dr : DE (List PyData)) : DE (List PyData) := fun env q => da env fun d => dr env fun ds => q (d :: ds)
variable {dr : DE (List PyData)} {es : List Expr}
theorem pxa_nil : PXA X [] dNil := ⟨_, pa_nil, fun σ H0 H env rr q Q hd k => k H0 H [] [] (.rfl rr.i) rfl .nil hd⟩
theorem pxa_cons (ha : PX X (RS X.K) e da) (hr : PXA X es dr) (hs : starEach (e :: es) X.env = (false, eval e X.env) :: starEach es X.env := by rfl) : PXA X (e :: es) (dCons da dr) :=
  let ⟨_, p1, s1⟩ := ha
  let ⟨_, p2, s2⟩ := hr
  ⟨_, pa_cons p1 p2 hs, fun σ H0 H env rr q Q hd k => s1 σ H0 H env rr _ _ hd fun H1 H' v d st hv hq => s2 σ H1 H' env (rr.step st) _ _ hq fun H2 H'' vs ds st2 hl hvs hq2 =>
    k H2 H'' _ _ (st.trans st2) (by rw [List.length_cons, List.length_cons, hl]) (.cons (Dp.up hv st2.e0) hvs) hq2⟩
theorem pxb_nil : PXB X [] dNil := ⟨_, pa_nil, fun σ H0 H env rr q Q hd k => k H0 H [] [] (.rfl rr.i) rfl .nil hd⟩
theorem pxb_cons (ha : PX X (RU X.K) e da) (hr : PXB X es dr) (hs : starEach (e :: es) X.env = (false, eval e X.env) :: starEach es X.env := by rfl) : PXB X (e :: es) (dCons da dr) :=
  let ⟨_, p1, s1⟩ := ha
  let ⟨_, p2, s2⟩ := hr
  ⟨_, pa_cons p1 p2 hs, fun σ H0 H env rr q Q hd k => s1 σ H0 H env rr _ _ hd fun H1 H' v d st hv hq => s2 σ H1 H' env (rr.step st) _ _ hq fun H2 H'' vs ds st2 hl hvs hq2 =>
    k H2 H'' _ _ (st.trans st2) (by rw [List.length_cons, List.length_cons, hl]) (.cons (Dp.up hv st2.e) hvs) hq2⟩
def dTup (dr : DE (List PyData)) : DE PyData := fun env q => dr env fun ds => q (.tuple ds)
theorem px_tup {x1} (h : PXA X es dr) (hl : es.length ≤ sizeLine := by decide) : PX X (RS X.K) (.Tuple es x1 pos) (dTup dr) :=
  let ⟨_, p, s⟩ := h
  ⟨_, pe_tup p, fun σ H0 H env rr q Q hd k => s σ H0 H env rr _ _ hd fun H1 H' vs ds st hn hvs hq => ⟨by rw [hn]; exact hl, fun p hp =>
    k _ _ _ _ (st.trans (Stp.new st.i hp)) (Dp.tup (SqT.of upd_same) (hvs.up (same_new (st.i.free hp)))) hq⟩⟩
theorem px_lst {x1} (h : PXA X es dr) (hl : es.length ≤ sizeLine := by decide) : PX X (RO X.K) (.List es x1) dr :=
  let ⟨_, p, s⟩ := h
  ⟨_, pe_lst p, fun σ H0 H env rr q Q hd k => s σ H0 H env rr _ _ hd fun H1 H' vs ds st hn hvs hq => ⟨by rw [hn]; exact hl, fun p hp =>
    k H1 (upd H' p (.lst vs)) _ _ (st.trans (Stp.stay st.i (same_new hp))) ⟨p, vs, rfl, st.e.free hp, st.i.free hp, upd_same, hvs⟩ hq⟩⟩
end
end DL
namespace DL
open PySem PySem.Spec PyProof.Rows L2
section
variable {X : Cx} {e a b : Expr} {pos : Pos}
/-! ### subscripts -/
theorem atI_dp {K : PySem.W.Frag} {H : Hp} {ds : List PyData} {vs : List V} {i : Int} {d : PyData} (h : DpAll K H vs ds) (e : atI ds i = some d) : ∃ v, atI vs i = some v ∧ Dp K H v d := by
  unfold atI at e ⊢
  rw [dpAll_len h]
  cases hj : ixN ds.length i with
  | none => rw [hj] at e; cases e
  | some j =>
    rw [hj] at e
    exact dpAll_get (i := j) h e
def fIxL (ds : List PyData) (e : PyData) (q : PyData → Prop) : Prop := match e with
  | .int i => match atI ds i with
    | some d => q d
    | none => False
  | _ => False
def fIx : D2 := fun d e q => match d with
  | .tuple ds => fIxL ds e q
  | .list ds => fIxL ds e q
  | .str z => match e with
    | .int i => z.length ≤ sizeLine ∧ match atI z.cps.toList i with
      | some c => q (.str ⟨#[c]⟩)
      | none => False
    | _ => False
  | _ => False
theorem fIxL_of {ds : List PyData} {e : PyData} {q : PyData → Prop} (h : fIxL ds e q) : ∃ i d, e = .int i ∧ atI ds i = some d ∧ q d := by
  cases e with
  | int i =>
    unfold fIxL at h
    cases hd : atI ds i with
    | none => simp only [hd] at h
    | some d =>
      simp only [hd] at h
      exact ⟨i, d, rfl, hd, h⟩
  | _ => exact h.elim
theorem px_ix {da db : DE PyData} (ha : PX X (RS X.K) a da) (hb : PX X (RU X.K) b db) (hs : PlainIx b := by intro _ _; rfl) : PX X (RS X.K) (.Subscript a b pos) (d2 fIx da db) :=
  let ⟨_, p1, s1⟩ := ha
  let ⟨_, p2, s2⟩ := hb
  ⟨_, pe_ix ix_seq p1 p2 hs, fun σ H0 H env rr q Q hd k => s1 σ H0 H env rr _ _ hd fun H1 H' v d st hv hq => s2 σ H1 H' env (rr.step st) _ _ hq fun H2 H'' w e st2 hw hq2 => by
    have hv2 := (Dp.up hv st2.e0)
    have hw' : Dp X.K H'' w e := hw
    cases d with
    | tuple ds =>
      obtain ⟨i, d, rfl, h1, h2⟩ := fIxL_of (show fIxL ds e q from hq2)
      cases hw'
      cases hv2 with
      | tup a1 a2 =>
        obtain ⟨x, h3, h4⟩ := atI_dp a2 h1
        exact .inr (.inl ⟨_, _, i, x, rfl, rfl, sqT_mono st2.i a1, h3, k H2 H'' x d (st.trans st2) h4 h2⟩)
    | list ds =>
      obtain ⟨i, d, rfl, h1, h2⟩ := fIxL_of (show fIxL ds e q from hq2)
      cases hw'
      cases hv2 with
      | lst a1 a2 =>
        obtain ⟨x, h3, h4⟩ := atI_dp a2 h1
        exact .inl ⟨_, _, i, x, rfl, rfl, Same.seq st2.i a1, h3, k H2 H'' x d (st.trans st2) h4 h2⟩
    | str z =>
      cases e with
      | int i =>
        cases hw'
        cases hv2
        obtain ⟨h1, h2⟩ := hq2
        cases hc : atI z.cps.toList i with
        | none => simp only [hc] at h2
        | some c =>
          simp only [hc] at h2
          exact .inr (.inr ⟨z, i, c, rfl, rfl, h1, hc, k H2 H'' _ _ (st.trans st2) (.str _) h2⟩)
      | _ => exact hq2.elim
    | _ => exact hq2.elim⟩
def dIxL (da : DE (List PyData)) (db : DE PyData) : DE PyData := fun env q => da env fun ds => db env fun e => fIxL ds e q
theorem px_ixL {da : DE (List PyData)} {db : DE PyData} (ha : PX X (RL X.K) a da) (hb : PX X (RU X.K) b db) (hs : PlainIx b := by intro _ _; rfl) : PX X (RS X.K) (.Subscript a b pos) (dIxL da db) :=
  let ⟨_, p1, s1⟩ := ha
  let ⟨_, p2, s2⟩ := hb
  ⟨_, pe_ix ix_list p1 p2 hs, fun σ H0 H env rr q Q hd k => s1 σ H0 H env rr _ _ hd fun H1 H' v ds st hv hq => s2 σ H1 H' env (rr.step st) _ _ hq fun H2 H'' w e st2 hw hq2 => by
    obtain ⟨p, xs, rfl, a1, a2⟩ := hv
    obtain ⟨i, d, rfl, h1, h2⟩ := fIxL_of hq2
    have hw' : Dp X.K H'' w (.int i) := hw
    cases hw'
    obtain ⟨x, h3, h4⟩ := atI_dp a2 h1
    exact ⟨_, _, i, x, rfl, rfl, Same.seq st2.e a1, h3, k H2 H'' x d (st.trans st2) (Dp.up h4 st2.e0) h2⟩⟩
/-! slices -/
def PXO (X : Cx) (o : Option Expr) (d : DE (Option Int)) : Prop := ∃ t, PO X o t ∧
  ∀ σ H0 H env, Rel X.K σ H0 H env → ∀ (q : Option Int → Prop) (Q : Option Int → Hp → Prop), d env q → (∀ H1 H' v, Stp H0 H H1 H' → q v → Q v H') → t σ H Q
def dNo : DE (Option Int) := fun _ q => q none
def dSo (d : DE PyData) : DE (Option Int) := fun env q => d env fun x => match x with
  | .int i => q (some i)
  | _ => False
theorem pxo_none : PXO X none dNo := ⟨_, po_none, fun σ H0 H env rr q Q hd k => k H0 H _ (.rfl rr.i) hd⟩
theorem pxo_some {d : DE PyData} (h : PX X (RU X.K) e d) : PXO X (some e) (dSo d) :=
  let ⟨_, p, s⟩ := h
  ⟨_, po_some p, fun σ H0 H env rr q Q hd k => s σ H0 H env rr _ _ hd fun H1 H' v x st hv hq => by
    cases x with
    | int i =>
      have hv' : Dp X.K H' v (.int i) := hv
      cases hv'
      exact ⟨i, rfl, k H1 H' _ st hq⟩
    | _ => exact hq.elim⟩
def cutD {α : Type} (xs : List α) (lo hi : Option Int) : List α := (xs.drop (HT.sIx xs.length 0 lo)).take (HT.sIx xs.length xs.length hi - HT.sIx xs.length 0 lo)
theorem dpAll_cut {K : PySem.W.Frag} {H : Hp} {ds : List PyData} {vs : List V} (h : DpAll K H vs ds) (lo hi : Option Int) : DpAll K H (cutV vs lo hi) (cutD ds lo hi) := by
  unfold cutV cutD
  rw [dpAll_len h]
  exact dpAll_take _ (dpAll_drop _ h)
theorem cutD_whole {α : Type} {xs : List α} {lo hi : Option Int} (h : HT.sIx xs.length 0 lo = 0 ∧ HT.sIx xs.length xs.length hi = xs.length) : cutD xs lo hi = xs := by
  unfold cutD
  rw [h.1, h.2, Nat.sub_zero, List.drop_zero, List.take_length]
def dSlL (da : DE (List PyData)) (dl du : DE (Option Int)) : DE (List PyData) := fun env q => da env fun ds => dl env fun l => du env fun u => q (cutD ds l u)
def dSlT (da : DE PyData) (dl du : DE (Option Int)) : DE PyData := fun env q => da env fun d => dl env fun l => du env fun u => match d with
  | .tuple ds => q (.tuple (cutD ds l u))
  | .str z => z.length ≤ sizeLine ∧ q (.str (cutS z l u))
  | _ => False
theorem px_slL {lo hi : Option Expr} {p2 : Pos} {da : DE (List PyData)} {dl du : DE (Option Int)} (ha : PX X (RL X.K) a da) (hl : PXO X lo dl) (hu : PXO X hi du) : PX X (RO X.K) (.Subscript a (.Slice lo hi none p2) pos) (dSlL da dl du) :=
  let ⟨_, p1, s1⟩ := ha
  let ⟨_, p2, s2⟩ := hl
  let ⟨_, p3, s3⟩ := hu
  ⟨_, pe_slice sl_list p1 p2 p3, fun σ H0 H env rr q Q hd k => s1 σ H0 H env rr _ _ hd fun H1 H' v ds st hv hq => s2 σ H1 H' env (rr.step st) _ _ hq fun H2 H2' l st2 hq2 => s3 σ H2 H2' env (rr.step (st.trans st2)) _ _ hq2 fun H3 H3' u st3 hq3 => by
    obtain ⟨p, xs, rfl, a1, a2⟩ := hv
    have st' := (st.trans st2).trans st3
    have s23 := st2.trans st3
    exact ⟨p, xs, rfl, Same.seq s23.e a1, fun c hc => k H3 (upd H3' c (.lst (cutV xs l u))) _ _ (st'.trans (Stp.stay st'.i (same_new hc))) ⟨c, _, rfl, st'.e.free hc, st'.i.free hc, upd_same, dpAll_cut (a2.up s23.e0) l u⟩ hq3⟩⟩
theorem or_sl : SlR X (fun x lo hi H Q => rSlA X.K x lo hi H Q ∨ rSlS x lo hi H Q) := SlR.or sl_tupA sl_str
theorem px_slT {lo hi : Option Expr} {p2 : Pos} {da : DE PyData} {dl du : DE (Option Int)} (ha : PX X (RS X.K) a da) (hl : PXO X lo dl) (hu : PXO X hi du) : PX X (RS X.K) (.Subscript a (.Slice lo hi none p2) pos) (dSlT da dl du) :=
  let ⟨_, p1, s1⟩ := ha
  let ⟨_, p2, s2⟩ := hl
  let ⟨_, p3, s3⟩ := hu
  ⟨_, pe_slice or_sl p1 p2 p3, fun σ H0 H env rr q Q hd k => s1 σ H0 H env rr _ _ hd fun H1 H' v d st hv hq => s2 σ H1 H' env (rr.step st) _ _ hq fun H2 H2' l st2 hq2 => s3 σ H2 H2' env (rr.step (st.trans st2)) _ _ hq2 fun H3 H3' u st3 hq3 => by
    have st' := (st.trans st2).trans st3
    have s23 := st2.trans st3
    have hv3 := Dp.up hv s23.e0
    cases d with
    | tuple ds =>
      cases hv3 with
      | tup a1 a2 =>
        have hl := dpAll_len a2
        refine .inl ⟨_, _, rfl, sqT_mono st'.i a1, fun w => ?_, fun _ c hc => ?_⟩
        · rw [hl] at w
          refine k H3 H3' _ _ st' (show Dp X.K H3 _ (.tuple (cutD ds l u)) from ?_) hq3
          rw [cutD_whole w]
          exact .tup a1 a2
        · exact k _ _ _ _ (st'.trans (Stp.new st'.i hc)) (Dp.tup (SqT.of upd_same) ((dpAll_cut a2 l u).up (same_new (st'.i.free hc)))) hq3
    | str z =>
      cases hv3
      exact .inr ⟨z, rfl, hq3.1, k H3 H3' _ _ st' (.str _) hq3.2⟩
    | _ => exact hq3.elim⟩

/-! ### calls of built-ins -/
def OpC (K : PySem.W.Frag) (r : List V → Hp → VK → Prop) (f : List PyData → (PyData → Prop) → Prop) : Prop := ∀ (H : Hp) (xs : List V) (ds : List PyData) (q : PyData → Prop) (Q : VK), DpAll K H xs ds → f ds q → (∀ v b, Sc v b → q b → Q v H) → r xs H Q
def dF {α : Type} (f : List PyData → (α → Prop) → Prop) (da : DE (List PyData)) : DE α := fun env q => da env fun ds => f ds q
section
variable {x : Str} {p : Pos} {es : List Expr} {id T : String} {r : List V → Hp → VK → Prop} {f : List PyData → (PyData → Prop) → Prop} {da : DE (List PyData)}
theorem s_callB {K : PySem.W.Frag} {n : Nat} {t : TA} (hf : OpC K r f) (s : SB K n t da) : SE K (RS K) (tCB r t) (dF f da) :=
  fun σ H0 H env rr q Q hd k => s σ H0 H env rr _ _ hd fun H1 H' vs ds st hl hv hq => hf H' vs ds q _ hv hq fun v b sc hb => k H1 H' v b st sc.dp hb
theorem px_callB (hc : CallR X (.builtin id) r) (hf : OpC X.K r f) (hg : Gl X x) (hm : X.mg x = none) (hv : bootBuiltins x = some (.builtin id)) (ha : PXB X (e :: es) da) (hn : x ≠ "__name__" := by decide) (hdb : (x == ("__debug__" : Str)) = false := by decide)
    (he : starEach (e :: es) X.env = (false, eval e X.env) :: starEach es X.env := by rfl) (hpl : (backTo pos (starEach es X.env)).any (·.1) = false := by rfl) : PX X (RS X.K) (.Call (.Name x p) (e :: es) [] pos) (dF f da) :=
  let ⟨_, p1, s1⟩ := ha
  ⟨_, pe_callB hc hg hm hv p1 hn hdb he hpl, s_callB hf s1⟩
theorem px_callTy (hc : CallR X (.type T) r) (hf : OpC X.K r f) (hg : Gl X x) (hm : X.mg x = none) (hv : bootBuiltins x = some (.type T)) (ha : PXB X (e :: es) da) (hn : x ≠ "__name__" := by decide) (hdb : (x == ("__debug__" : Str)) = false := by decide)
    (he : starEach (e :: es) X.env = (false, eval e X.env) :: starEach es X.env := by rfl) (hpl : (backTo pos (starEach es X.env)).any (·.1) = false := by rfl) : PX X (RS X.K) (.Call (.Name x p) (e :: es) [] pos) (dF f da) :=
  let ⟨_, p1, s1⟩ := ha
  ⟨_, pe_callTy hc hg hm hv p1 hn hdb he hpl, s_callB hf s1⟩
end
def fLen (ds : List PyData) (q : PyData → Prop) : Prop := match ds with
  | [.tuple l] => q (.int (l.length : Nat))
  | [.list l] => q (.int (l.length : Nat))
  | [.str s] => s.length ≤ sizeLine ∧ q (.int (s.length : Nat))
  | _ => False
theorem oc_len {K : PySem.W.Frag} : OpC K (fun xs H Q => ∃ x n, xs = [x] ∧ LenV K x H n ∧ Q (.int n) H) fLen := by
  intro H xs ds q Q h hf k
  cases ds with
  | nil => exact hf.elim
  | cons d ds =>
    cases ds with
    | cons d2 ds => cases d <;> exact hf.elim
    | nil =>
      cases h with
      | cons h1 h2 =>
        cases h2
        cases d with
        | tuple l =>
          cases h1 with
          | tup a b => exact ⟨_, l.length, rfl, .inr ⟨_, a, (dpAll_len b).symm⟩, k _ _ (.int _) hf⟩
        | list l =>
          cases h1 with
          | lst a b => exact ⟨_, l.length, rfl, .inl ⟨_, a, (dpAll_len b).symm⟩, k _ _ (.int _) hf⟩
        | str s =>
          cases h1
          exact ⟨_, s.length, rfl, ⟨hf.1, rfl⟩, k _ _ (.int _) hf.2⟩
        | _ => exact hf.elim
def fMax2 (ds : List PyData) (q : PyData → Prop) : Prop := match ds with
  | [.int i, .int j] => q (.int (if j > i then j else i))
  | _ => False
theorem oc_max2 {K : PySem.W.Frag} : OpC K (fun xs H Q => ∃ i j, xs = [.int i, .int j] ∧ Q (.int (if j > i then j else i)) H) fMax2 := by
  intro H xs ds q Q h hf k
  unfold fMax2 at hf
  split at hf
  · cases h with
    | cons h1 h2 =>
      cases h2 with
      | cons h2 h3 =>
        cases h3
        cases h1
        cases h2
        exact ⟨_, _, rfl, k _ _ (.int _) hf⟩
  · exact hf.elim
def fInt1 (ds : List PyData) (q : PyData → Prop) : Prop := match ds with
  | [.int i] => q (.int i)
  | [.bool b] => q (.int (if b then 1 else 0))
  | _ => False
theorem oc_int1 {K : PySem.W.Frag} : OpC K (fun xs H Q => (∃ i, xs = [.int i] ∧ Q (.int i) H) ∨ ∃ k, xs = [.bl k] ∧ Q (.int (if k then 1 else 0)) H) fInt1 := by
  intro H xs ds q Q h hf k
  unfold fInt1 at hf
  split at hf
  · cases h with
    | cons h1 h2 =>
      cases h2
      cases h1
      exact .inl ⟨_, rfl, k _ _ (.int _) hf⟩
  · cases h with
    | cons h1 h2 =>
      cases h2
      cases h1
      exact .inr ⟨_, rfl, k _ _ (.int _) hf⟩
  · exact hf.elim
def fStr1 (ds : List PyData) (q : PyData → Prop) : Prop := match ds with
  | [.int i] => i.natAbs.log2 < 1920 ∧ q (.str (toString i))
  | _ => False
theorem oc_str1 {K : PySem.W.Frag} : OpC K (fun xs H Q => ∃ i, xs = [.int i] ∧ i.natAbs.log2 < 1920 ∧ Q (.str (toString i)) H) fStr1 := by
  intro H xs ds q Q h hf k
  unfold fStr1 at hf
  split at hf
  · cases h with
    | cons h1 h2 =>
      cases h2
      cases h1
      exact ⟨_, rfl, hf.1, k _ _ (.str _) hf.2⟩
  · exact hf.elim
theorem dpInts {K : PySem.W.Frag} {H : Hp} : ∀ {ns : List Int} {xs : List V}, DpAll K H xs (ns.map PyData.int) → xs = ns.map V.int
  | [], _, h => by cases h; rfl
  | n :: ns, _, h => by
    cases h with
    | cons a b =>
      cases a
      rw [dpInts b]
      rfl
theorem dpBools {K : PySem.W.Frag} {H : Hp} : ∀ {ns : List Bool} {xs : List V}, DpAll K H xs (ns.map PyData.bool) → xs = ns.map V.bl
  | [], _, h => by cases h; rfl
  | n :: ns, _, h => by
    cases h with
    | cons a b =>
      cases a
      rw [dpBools b]
      rfl
def fSum (ds : List PyData) (q : PyData → Prop) : Prop := ∃ ns : List Int, ds = [.list (ns.map PyData.int)] ∧ q (.int ns.sum)
theorem oc_sum {K : PySem.W.Frag} : OpC K (rSum K) fSum := by
  intro H xs ds q Q h hf k
  obtain ⟨ns, rfl, hq⟩ := hf
  cases h with
  | cons h1 h2 =>
    cases h2
    cases h1 with
    | lst a b =>
      have e := dpInts b
      subst e
      exact ⟨_, ns, rfl, a, k _ _ (.int _) hq⟩
def fAll (ds : List PyData) (q : PyData → Prop) : Prop := ∃ bs : List Bool, ds = [.list (bs.map PyData.bool)] ∧ q (.bool (bs.all id))
theorem oc_all {K : PySem.W.Frag} : OpC K (rAll K) fAll := by
  intro H xs ds q Q h hf k
  obtain ⟨ns, rfl, hq⟩ := hf
  cases h with
  | cons h1 h2 =>
    cases h2
    cases h1 with
    | lst a b =>
      have e := dpBools b
      subst e
      exact ⟨_, ns, rfl, a, k _ _ (.bl _) hq⟩
/-! isinstance -/
def tyN : PyData → String
  | .none => "NoneType"
  | .bool _ => "bool"
  | .int _ => "int"
  | .str _ => "str"
  | .list _ => "list"
  | .tuple _ => "tuple"
  | .dict _ => "dict"
theorem tyx_of {K : PySem.W.Frag} {H : Hp} {x : V} {d : PyData} (h : Dp K H x d) : TyX K H x (.type (tyN d)) := by
  cases h with
  | non => exact .base .non
  | bl b => exact .base (.bl b)
  | int i => exact .base (.int i)
  | str s => exact .base (.str s)
  | lst a b =>
    rcases a with (a | ⟨o, a⟩) | ⟨o, its, n, h1, h2, _⟩
    · exact .base (.lst a)
    · exact .base (.frz a)
    · exact .kList h1 h2
  | tup a b =>
    rcases a with (a | ⟨o, a⟩) | ⟨o, its, n, h1, h2, _⟩
    · exact .base (.tup a)
    · exact .fTuple a
    · exact .kTuple h1 h2
def isInt : PyData → Bool
  | .int _ => true
  | .bool _ => true
  | _ => false
def isBool : PyData → Bool
  | .bool _ => true
  | _ => false
def isTup : PyData → Bool
  | .tuple _ => true
  | _ => false
def isLst : PyData → Bool
  | .list _ => true
  | _ => false
def isStr : PyData → Bool
  | .str _ => true
  | _ => false
theorem kit_int {K : PySem.W.Frag} {H : Hp} {x : V} {d : PyData} (h : Dp K H x d) : kitB (tyN d) "int" = some (isInt d) := by
  cases h
  · exact (by decide +kernel : kitB "NoneType" "int" = some false)
  · exact (by decide +kernel : kitB "bool" "int" = some true)
  · exact (by decide +kernel : kitB "int" "int" = some true)
  · exact (by decide +kernel : kitB "str" "int" = some false)
  · exact (by decide +kernel : kitB "list" "int" = some false)
  · exact (by decide +kernel : kitB "tuple" "int" = some false)
theorem kit_bool {K : PySem.W.Frag} {H : Hp} {x : V} {d : PyData} (h : Dp K H x d) : kitB (tyN d) "bool" = some (isBool d) := by
  cases h
  · exact (by decide +kernel : kitB "NoneType" "bool" = some false)
  · exact (by decide +kernel : kitB "bool" "bool" = some true)
  · exact (by decide +kernel : kitB "int" "bool" = some false)
  · exact (by decide +kernel : kitB "str" "bool" = some false)
  · exact (by decide +kernel : kitB "list" "bool" = some false)
  · exact (by decide +kernel : kitB "tuple" "bool" = some false)
theorem kit_tup {K : PySem.W.Frag} {H : Hp} {x : V} {d : PyData} (h : Dp K H x d) : kitB (tyN d) "tuple" = some (isTup d) := by
  cases h
  · exact (by decide +kernel : kitB "NoneType" "tuple" = some false)
  · exact (by decide +kernel : kitB "bool" "tuple" = some false)
  · exact (by decide +kernel : kitB "int" "tuple" = some false)
  · exact (by decide +kernel : kitB "str" "tuple" = some false)
  · exact (by decide +kernel : kitB "list" "tuple" = some false)
  · exact (by decide +kernel : kitB "tuple" "tuple" = some true)
theorem kit_lst {K : PySem.W.Frag} {H : Hp} {x : V} {d : PyData} (h : Dp K H x d) : kitB (tyN d) "list" = some (isLst d) := by
  cases h
  · exact (by decide +kernel : kitB "NoneType" "list" = some false)
  · exact (by decide +kernel : kitB "bool" "list" = some false)
  · exact (by decide +kernel : kitB "int" "list" = some false)
  · exact (by decide +kernel : kitB "str" "list" = some false)
  · exact (by decide +kernel : kitB "list" "list" = some true)
  · exact (by decide +kernel : kitB "tuple" "list" = some false)
theorem kit_str {K : PySem.W.Frag} {H : Hp} {x : V} {d : PyData} (h : Dp K H x d) : kitB (tyN d) "str" = some (isStr d) := by
  cases h
  · exact (by decide +kernel : kitB "NoneType" "str" = some false)
  · exact (by decide +kernel : kitB "bool" "str" = some false)
  · exact (by decide +kernel : kitB "int" "str" = some false)
  · exact (by decide +kernel : kitB "str" "str" = some true)
  · exact (by decide +kernel : kitB "list" "str" = some false)
  · exact (by decide +kernel : kitB "tuple" "str" = some false)
def fIsi (g : PyData → Bool) : D1 := fun d q => q (.bool (g d))
theorem px_isi {T : String} {g : PyData → Bool} {da : DE PyData} {p : Pos} (hk : ∀ {K : PySem.W.Frag} {H : Hp} {x : V} {d : PyData}, Dp K H x d → kitB (tyN d) T = some (g d)) (hg : Gl X "isinstance") (hm : X.mg "isinstance" = none) (ha : PX X (RU X.K) a da) (hb : PE X b (tC (.ty T)))
    (he : starEach [a, b] X.env = (false, eval a X.env) :: starEach [b] X.env := by rfl) (hpl : (backTo pos (starEach [b] X.env)).any (·.1) = false := by rfl) (h2 : starEach [b] X.env = (false, eval b X.env) :: starEach [] X.env := by rfl) :
    PX X (RS X.K) (.Call (.Name "isinstance" p) [a, b] [] pos) (d1 (fIsi g) da) :=
  let ⟨_, p1, s1⟩ := ha
  ⟨_, pe_callB call_isi hg hm PyProof.Rows.boot_isinstance (pa_cons p1 (pa_cons hb pa_nil h2) he) (by decide) (by decide) he hpl, fun σ H0 H env rr q Q hd k => s1 σ H0 H env rr _ _ hd fun H1 H' v d st hv hq =>
    ⟨v, .ty T, _, _, g d, rfl, .ty T, tyx_of hv, kit_ty (hk hv), k H1 H' _ _ st (.bl _) hq⟩⟩
/-! list(x), tuple(x) -/
section
variable {p : Pos}
theorem px_listL {da : DE (List PyData)} (hg : Gl X "list") (hm : X.mg "list" = none) (ha : PX X (RL X.K) a da) (he : starEach [a] X.env = (false, eval a X.env) :: starEach [] X.env := by rfl) (hpl : (backTo pos (starEach [] X.env)).any (·.1) = false := by rfl) :
    PX X (RO X.K) (.Call (.Name "list" p) [a] [] pos) da :=
  let ⟨_, p1, s1⟩ := ha
  ⟨_, pe_callTy call_list_of hg hm PyProof.Rows.boot_list (pa_cons p1 pa_nil he) (by decide) (by decide) he hpl, fun σ H0 H env rr q Q hd k => s1 σ H0 H env rr _ _ hd fun H1 H' v ds st ⟨c, xs, h1, h2, h3⟩ hq => by
    subst h1
    exact ⟨c, xs, rfl, .inl h2, fun l hl => k H1 _ _ _ (st.trans (Stp.stay st.i (same_new hl))) ⟨l, xs, rfl, st.e.free hl, st.i.free hl, upd_same, h3⟩ hq⟩⟩
def dAsT (d : DE PyData) : DE (List PyData) := fun env q => d env fun x => match x with
  | .tuple ds => q ds
  | _ => False
theorem px_listT {da : DE PyData} (hg : Gl X "list") (hm : X.mg "list" = none) (ha : PX X (RS X.K) a da) (he : starEach [a] X.env = (false, eval a X.env) :: starEach [] X.env := by rfl) (hpl : (backTo pos (starEach [] X.env)).any (·.1) = false := by rfl) :
    PX X (RO X.K) (.Call (.Name "list" p) [a] [] pos) (dAsT da) :=
  let ⟨_, p1, s1⟩ := ha
  ⟨_, pe_callTy call_list_of hg hm PyProof.Rows.boot_list (pa_cons p1 pa_nil he) (by decide) (by decide) he hpl, fun σ H0 H env rr q Q hd k => s1 σ H0 H env rr _ _ hd fun H1 H' v d st hv hq => by
    cases d with
    | tuple ds =>
      have hv' : Dp X.K H1 v (.tuple ds) := hv
      cases hv' with
      | tup a1 a2 => exact ⟨_, _, rfl, .inr (sqT_mono st.i a1), fun l hl => k H1 _ _ _ (st.trans (Stp.stay st.i (same_new hl))) ⟨l, _, rfl, st.e.free hl, st.i.free hl, upd_same, a2⟩ hq⟩
    | _ => exact hq.elim⟩
def dMkT (d : DE (List PyData)) : DE PyData := fun env q => d env fun ds => q (.tuple ds)
theorem px_tupL {da : DE (List PyData)} (hg : Gl X "tuple") (hm : X.mg "tuple" = none) (ha : PX X (RL X.K) a da) (he : starEach [a] X.env = (false, eval a X.env) :: starEach [] X.env := by rfl) (hpl : (backTo pos (starEach [] X.env)).any (·.1) = false := by rfl) :
    PX X (RS X.K) (.Call (.Name "tuple" p) [a] [] pos) (dMkT da) :=
  let ⟨_, p1, s1⟩ := ha
  ⟨_, pe_callTy call_tuple_of hg hm PyProof.Rows.boot_tuple (pa_cons p1 pa_nil he) (by decide) (by decide) he hpl, fun σ H0 H env rr q Q hd k => s1 σ H0 H env rr _ _ hd fun H1 H' v ds st ⟨c, xs, h1, h2, h3⟩ hq => by
    subst h1
    exact ⟨c, xs, rfl, .inl ⟨h2, fun l hl => k _ _ _ _ (st.trans (Stp.new st.i hl)) (Dp.tup (SqT.of upd_same) (h3.up (same_new (st.i.free hl)))) hq⟩⟩⟩
theorem px_tupT {da : DE PyData} (hg : Gl X "tuple") (hm : X.mg "tuple" = none) (ha : PX X (RS X.K) a da) (he : starEach [a] X.env = (false, eval a X.env) :: starEach [] X.env := by rfl) (hpl : (backTo pos (starEach [] X.env)).any (·.1) = false := by rfl) :
    PX X (RS X.K) (.Call (.Name "tuple" p) [a] [] pos) (dMkT (dAsT da)) :=
  let ⟨_, p1, s1⟩ := ha
  ⟨_, pe_callTy call_tuple_of hg hm PyProof.Rows.boot_tuple (pa_cons p1 pa_nil he) (by decide) (by decide) he hpl, fun σ H0 H env rr q Q hd k => s1 σ H0 H env rr _ _ hd fun H1 H' v d st hv hq => by
    cases d with
    | tuple ds =>
      have hv' : Dp X.K H1 v (.tuple ds) := hv
      cases hv' with
      | tup a1 a2 => exact ⟨_, _, rfl, .inr ⟨sqT_mono st.i a1, k H1 H' _ _ st (Dp.tup a1 a2) hq⟩⟩
    | _ => exact hq.elim⟩
end
/-! lists joined, tuples joined -/
def dCat (da db : DE (List PyData)) : DE (List PyData) := fun env q => da env fun ds => db env fun es => ds.length + es.length ≤ sizeLine ∧ q (ds ++ es)
theorem px_cat {da db : DE (List PyData)} (ha : PX X (RM X.K) a da) (hb : PX X (RM X.K) b db) : PX X (RO X.K) (.BinOp a .Add b pos) (dCat da db) :=
  let ⟨_, p1, s1⟩ := ha
  let ⟨_, p2, s2⟩ := hb
  ⟨_, pe_op op_cat p1 p2, fun σ H0 H env rr q Q hd k => s1 σ H0 H env rr _ _ hd fun H1 H' v ds st ⟨c, xs, h1, h2, h3⟩ hq => s2 σ H1 H' env (rr.step st) _ _ hq fun H2 H'' w es st2 ⟨c', ys, g1, g2, g3⟩ hq2 => by
    subst h1
    subst g1
    have st' := st.trans st2
    exact ⟨c, c', xs, ys, rfl, rfl, st2.e _ _ h2, g2, by rw [dpAll_len h3, dpAll_len g3]; exact hq2.1, fun l hl => k H2 _ _ _ (st'.trans (Stp.stay st'.i (same_new hl))) ⟨l, _, rfl, st'.e.free hl, st'.i.free hl, upd_same, dpAll_app (h3.up st2.e0) g3⟩ hq2.2⟩⟩
def dCatT (da db : DE PyData) : DE PyData := fun env q => dAsT da env fun ds => dAsT db env fun es => ds.length + es.length ≤ sizeLine ∧ q (.tuple (ds ++ es))
theorem px_catT {da db : DE PyData} (ha : PX X (RS X.K) a da) (hb : PX X (RS X.K) b db) : PX X (RS X.K) (.BinOp a .Add b pos) (dCatT da db) :=
  let ⟨_, p1, s1⟩ := ha
  let ⟨_, p2, s2⟩ := hb
  ⟨_, pe_op op_catA p1 p2, fun σ H0 H env rr q Q hd k => s1 σ H0 H env rr _ _ hd fun H1 H' v d st hv hq => by
    cases d with
    | tuple ds =>
      refine s2 σ H1 H' env (rr.step st) _ _ hq fun H2 H'' w e st2 hw hq2 => ?_
      cases e with
      | tuple es =>
        have hv' := Dp.up hv st2.e0
        have hw' : Dp X.K H2 w (.tuple es) := hw
        have st' := st.trans st2
        cases hv' with
        | tup a1 a2 =>
          cases hw' with
          | tup b1 b2 =>
            refine ⟨_, _, _, _, rfl, rfl, sqT_mono st'.i a1, sqT_mono st'.i b1, by rw [dpAll_len a2, dpAll_len b2]; exact hq2.1, fun h => ?_, fun _ h => ?_, fun _ _ l hl => ?_⟩
            · subst h
              cases a2
              exact k H2 H'' _ _ st' (Dp.tup b1 b2) hq2.2
            · subst h
              cases b2
              have hq3 := hq2.2
              rw [List.append_nil] at hq3
              exact k H2 H'' _ _ st' (Dp.tup a1 a2) hq3
            · exact k _ _ _ _ (st'.trans (Stp.new st'.i hl)) (Dp.tup (SqT.of upd_same) ((dpAll_app a2 b2).up (same_new (st'.i.free hl)))) hq2.2
      | _ => exact hq2.elim
    | _ => exact hq.elim⟩

/-! ### calls of the text's own defs -/
abbrev Fn (α : Type) := List PyData → (α → Prop) → Prop
def spD {α : Type} (K : PySem.W.Frag) (R : PySem.W.Frag → KR α) (c : Fn α) (n : Nat) : Sp := fun vs H Q _ => ∃ H0 ds q, vs.length = n ∧ Same H0 H ∧ DpAll K H0 vs ds ∧ c ds q ∧ ∀ H1 H' v a, Stp H0 H H1 H' → R K H H1 H' v a → q a → Q v H'
section
variable {α : Type} {R : PySem.W.Frag → KR α} {c : Fn α} {k : Nat} {f : Addr} {fd : FuncData} {ps : List Str} {x : Str} {p : Pos} {es : List Expr} {da : DE (List PyData)}
theorem s_call {K : PySem.W.Frag} {n : Nat} {t : TA} (hR : KA (R K)) (s : SA K n t da) : SE K (R K) (tCall (spD K R c n) [] E0 t) (dF c da) :=
  fun σ H0 H env rr q Q hd k => s σ H0 H env rr _ _ hd fun H1 H' vs ds st hl hv hq => ⟨H1, ds, q, by rw [List.append_nil]; exact hl, st.i, by rw [List.append_nil]; exact hv, hq, fun H2 H'' v a st2 hr hqa => k H2 H'' v a (st.trans st2) (hR _ _ _ _ _ _ st.e hr) hqa⟩
theorem px_call (hR : KA (R X.K)) (F : FnOk X.prog X.w X.K X.mg X.base CX0 k f fd ps (spD X.K R c (e :: es).length)) (hr : Room k X.A) (hg : Gl X x) (hm : X.mg x = some (.ref f)) (hk : PySem.W.keepIn X.K (.ref f) = true) (hb : Binds X.K fd ps []) (ha : PXA X (e :: es) da)
    (hdb : (x == ("__debug__" : Str)) = false := by decide) (he : starEach (e :: es) X.env = (false, eval e X.env) :: starEach es X.env := by rfl) (hpl : (backTo pos (starEach es X.env)).any (·.1) = false := by rfl) :
    PX X (R X.K) (.Call (.Name x p) (e :: es) [] pos) (dF c da) :=
  let ⟨_, p1, s1⟩ := ha
  ⟨_, pe_call F hr hg hm hk hb .nil pass0 p1 hdb he hpl, s_call hR s1⟩
def isSc : PyData → Bool
  | .none => true
  | .bool _ => true
  | .int _ => true
  | .str _ => true
  | _ => false
theorem sc_of {K : PySem.W.Frag} {H : Hp} {v : V} {d : PyData} (h : Dp K H v d) (hs : isSc d = true) : Sc v d := by
  cases h with
  | non => exact .non
  | bl b => exact .bl b
  | int i => exact .int i
  | str s => exact .str s
  | lst a b => cases hs
  | tup a b => cases hs
/-- arguments that are read only; the answer is a scalar -/
def dFU (c : Fn PyData) (da : DE (List PyData)) : DE PyData := fun env q => da env fun ds => c ds fun d => isSc d = true ∧ q d
theorem s_callU {K : PySem.W.Frag} {n : Nat} {t : TA} {c : Fn PyData} (s : SB K n t da) : SE K (RS K) (tCall (spD K RS c n) [] E0 t) (dFU c da) :=
  fun σ H0 H env rr q Q hd k => s σ H0 H env rr _ _ hd fun H1 H' vs ds st hl hv hq => ⟨H', ds, _, by rw [List.append_nil]; exact hl, Same.refl _, by rw [List.append_nil]; exact hv, hq, fun H2 H'' v a st2 hr hqa => k H1 H'' v a (st.trans (Stp.stay st.i st2.e)) (sc_of hr hqa.1).dp hqa.2⟩
theorem px_callU {c : Fn PyData} (F : FnOk X.prog X.w X.K X.mg X.base CX0 k f fd ps (spD X.K RS c (e :: es).length)) (hr : Room k X.A) (hg : Gl X x) (hm : X.mg x = some (.ref f)) (hk : PySem.W.keepIn X.K (.ref f) = true) (hb : Binds X.K fd ps []) (ha : PXB X (e :: es) da)
    (hdb : (x == ("__debug__" : Str)) = false := by decide) (he : starEach (e :: es) X.env = (false, eval e X.env) :: starEach es X.env := by rfl) (hpl : (backTo pos (starEach es X.env)).any (·.1) = false := by rfl) :
    PX X (RS X.K) (.Call (.Name x p) (e :: es) [] pos) (dFU c da) :=
  let ⟨_, p1, s1⟩ := ha
  ⟨_, pe_call F hr hg hm hk hb .nil pass0 p1 hdb he hpl, s_callU s1⟩
end
end
end DL
namespace DL
open PySem PySem.Spec PyProof.Rows L2
/-! ### statements -/
/-- what a raise of a class of that name wants of the frame and the heap -/
abbrev WN := Str → L2.St → Hp → Prop
variable {W : WN}
structure DEnds (α : Type) where
  nx : En → Prop
  rt : α → Prop
  bk : En → Prop := fun _ => False
  ct : En → Prop := fun _ => False
  ex : Str → Prop := fun _ => False
abbrev DS (α : Type) := DEnds α → En → Prop
structure WS (K : PySem.W.Frag) (He H0e : Hp) (σ : L2.St) (H0 H : Hp) (env : En) : Prop where
  r : Rel K σ H0 H env
  s : Stp H0e He H0 H
  n : ∀ (i : Nat) ds a, env[i]? = some (some (.own ds)) → σ[i]? = some (some (.ref a)) → He a = none
structure Cmp {α : Type} (K : PySem.W.Frag) (R : KR α) (W : WN) (He H0e G : Hp) (q : DEnds α) (D : Ends) : Prop where
  nx : ∀ σ H0 H env, WS K He H0e σ H0 H env → Same G H0 → q.nx env → D.nx σ H
  bk : ∀ σ H0 H env, WS K He H0e σ H0 H env → Same G H0 → q.bk env → D.bk σ H
  ct : ∀ σ H0 H env, WS K He H0e σ H0 H env → Same G H0 → q.ct env → D.ct σ H
  rt : ∀ H0 H v a, Stp H0e He H0 H → R He H0 H v a → q.rt a → D.rt v H
  ex : ∀ x σ H0 H env, WS K He H0e σ H0 H env → Same G H0 → q.ex x → W x σ H
def SZ {α : Type} (K : PySem.W.Frag) (R : KR α) (W : WN) (t : TS) (ds : DS α) : Prop :=
  ∀ He H0e σ H0 H env, WS K He H0e σ H0 H env → ∀ (q : DEnds α) (D : Ends), ds q env → Cmp K R W He H0e H0 q D → t D σ H
def PZ (X : Cx) {α : Type} (R : PySem.W.Frag → KR α) (W : WN) (b : List Stmt) (ds : DS α) : Prop := ∃ t, PSs X b t ∧ SZ X.K (R X.K) W t ds
def PZ1 (X : Cx) {α : Type} (R : PySem.W.Frag → KR α) (W : WN) (b : Stmt) (ds : DS α) : Prop := ∃ t, PS X b t ∧ SZ X.K (R X.K) W t ds
section
variable {K : PySem.W.Frag} {He H0e G G' : Hp} {σ : L2.St} {H0 H H1 H' : Hp} {env : En} {α : Type} {R : KR α} {q : DEnds α} {D : Ends}
theorem Cmp.up (c : Cmp K R W He H0e G q D) (e : Same G G') : Cmp K R W He H0e G' q D :=
  ⟨fun σ H0 H env w s h => c.nx σ H0 H env w (e.trans s) h, fun σ H0 H env w s h => c.bk σ H0 H env w (e.trans s) h, fun σ H0 H env w s h => c.ct σ H0 H env w (e.trans s) h, c.rt, fun x σ H0 H env w s h => c.ex x σ H0 H env w (e.trans s) h⟩
theorem WS.step (w : WS K He H0e σ H0 H env) (s : Stp H0 H H1 H') : WS K He H0e σ H1 H' env := ⟨w.r.step s, w.s.trans s, w.n⟩
theorem WS.setV (w : WS K He H0e σ H0 H env) {i : Nat} {v : V} {d : PyData} (h : Dp K H0 v d) : WS K He H0e (σ.set i (some v)) H0 H (env.set i (some (.val d))) :=
  ⟨w.r.setV h, w.s, fun n ds a e1 e2 => by
    rcases set_get e1 with ⟨rfl, hl, q⟩ | ⟨hn, e1⟩
    · cases q
    · rw [List.getElem?_set_ne (Ne.symm hn)] at e2
      exact w.n n ds a e1 e2⟩
theorem WS.setO (w : WS K He H0e σ H0 H env) {i : Nat} {a : Addr} {xs : List V} {ds : List PyData} (he : He a = none) (h0 : H0 a = none) (h1 : H a = some (.lst xs)) (h2 : DpAll K H0 xs ds)
    (hs : ∀ (n : Nat) es, env[n]? = some (some (.own es)) → σ[n]? ≠ some (some (.ref a))) : WS K He H0e (σ.set i (some (.ref a))) H0 H (env.set i (some (.own ds))) :=
  ⟨w.r.setO h0 h1 h2 hs, w.s, fun n ds' b e1 e2 => by
    rcases set_get e1 with ⟨rfl, hl, q⟩ | ⟨hn, e1⟩
    · rw [List.getElem?_set_self (by rw [w.r.len]; exact hl)] at e2
      cases e2
      exact he
    · rw [List.getElem?_set_ne (Ne.symm hn)] at e2
      exact w.n n ds' b e1 e2⟩
theorem WS.mut (w : WS K He H0e σ H0 H env) {i : Nat} {a : Addr} {xs : List V} {ds es : List PyData} (hi : env[i]? = some (some (.own ds))) (ha : σ[i]? = some (some (.ref a))) (h2 : DpAll K H0 xs es) :
    WS K He H0e σ H0 (upd H a (.lst xs)) (env.set i (some (.own es))) := by
  have he := w.n i ds a hi ha
  obtain ⟨a', ys, q1, q2, q3, q4⟩ := w.r.own i ds hi
  rw [ha] at q1
  cases q1
  refine ⟨w.r.mut hi ha h2, ⟨w.s.e0, fun b o e => ?_, fun b o e => ?_, w.s.nw⟩, fun n ds' b e1 e2 => ?_⟩
  · rw [upd_ne (ne_of_none e he)]
    exact w.s.e _ _ e
  · rw [upd_ne (ne_of_none e q2)]
    exact w.s.i _ _ e
  · rcases set_get e1 with ⟨rfl, hl, q⟩ | ⟨hn, e1⟩
    · rw [ha] at e2
      cases e2
      exact he
    · exact w.n n ds' b e1 e2
end
section
variable {X : Cx} {α : Type} {R : PySem.W.Frag → KR α} {st : Stmt} {rest : List Stmt} {e : Expr} {pos : Pos} {d d' : DS α}
def dNext : DS α := fun q env => q.nx env
def dSeq (a b : DS α) : DS α := fun q env => a { q with nx := b q } env
theorem pz_nil : PZ X R W [] (dNext (α := α)) := ⟨_, pss_nil, fun He H0e σ H0 H env w q D h c => c.nx σ H0 H env w (Same.refl _) h⟩
theorem pz_cons (h1 : PZ1 X R W st d) (h2 : PZ X R W rest d') : PZ X R W (st :: rest) (dSeq d d') :=
  let ⟨_, p1, s1⟩ := h1
  let ⟨_, p2, s2⟩ := h2
  ⟨_, pss_cons p1 p2, fun He H0e σ H0 H env w q D h c => s1 He H0e σ H0 H env w _ _ h ⟨fun σ' H0' H' env' w' sg hq => s2 He H0e σ' H0' H' env' w' q D hq (c.up sg), c.bk, c.ct, c.rt, c.ex⟩⟩
theorem pz_one (h1 : PZ1 X R W st d) : PZ X R W [st] d :=
  let ⟨_, p1, s1⟩ := h1
  ⟨_, pss_one p1, s1⟩
def dRet (de : DE α) : DS α := fun q env => de env q.rt
theorem pz_ret {de : DE α} (hR : KA (R X.K)) (h : PX X (R X.K) e de) : PZ1 X R W (.Return (some e) pos) (dRet de) :=
  let ⟨_, p, s⟩ := h
  ⟨_, ps_ret p, fun He H0e σ H0 H env w q D h c => s σ H0 H env w.r _ _ h fun H1 H' v a st hr hq => c.rt H1 H' v a (w.s.trans st) (hR _ _ _ _ _ _ w.s.e hr) hq⟩
/-- an own list is handed back -/
def dRetO (i : Nat) : DS (List PyData) := fun q env => match env[i]? with
  | some (some (.own ds)) => q.rt ds
  | _ => False
theorem pz_retO {i : Nat} (h : PE X e (tVar i)) : PZ1 X RO W (.Return (some e) pos) (dRetO i) :=
  ⟨_, ps_ret h, fun He H0e σ H0 H env w q D h c => by
    unfold dRetO at h
    split at h
    · rename_i ds hx
      obtain ⟨a, xs, h1, h2, h3, h4⟩ := w.r.own i ds hx
      exact ⟨_, h1, c.rt H0 H _ ds w.s ⟨a, xs, rfl, w.n i ds a hx h1, h2, h3, h4⟩ h⟩
    · exact h.elim⟩
/-! assignments -/
def dSet (i : Nat) (de : DE PyData) : DS α := fun q env => de env fun x => q.nx (env.set i (some (.val x)))
def dSetO (i : Nat) (de : DE (List PyData)) : DS α := fun q env => de env fun x => q.nx (env.set i (some (.own x)))
theorem sz_set {K : PySem.W.Frag} {R : KR α} {t : TE} {i : Nat} {de : DE PyData} (s : SE K (RS K) t de) : SZ K R W (tAsg t (gName i)) (dSet (α := α) i de) :=
  fun He H0e σ H0 H env w q D h c => s σ H0 H env w.r _ _ h fun H1 H' v a st hr hq => c.nx _ H1 H' _ ((w.step st).setV hr) st.e0 hq
theorem sz_setO {K : PySem.W.Frag} {R : KR α} {t : TE} {i : Nat} {de : DE (List PyData)} (s : SE K (RO K) t de) : SZ K R W (tAsg t (gName i)) (dSetO (α := α) i de) :=
  fun He H0e σ H0 H env w q D h c => s σ H0 H env w.r _ _ h fun H1 H' v a st ⟨b, xs, h1, h2, h3, h4, h5⟩ hq => by
    subst h1
    exact c.nx _ H1 H' _ ((w.step st).setO (w.s.e.free h2) h3 h4 h5 (w.r.apart h2)) st.e0 hq
section
variable {i : Nat} {x : Str} {pos' : Pos}
theorem pz_set {de : DE PyData} (hN : X.N.Nodup) (hi : X.N[i]? = some x) (hx : Loc X.env.scope x) (he : PX X (RS X.K) e de) (hs : swapsWith e (some (.Name x pos')) pos.line X.env = pure false := by rfl) (hf : X.fn x = true ∨ X.env.scope.names.lookup x = some .local := by first | exact .inl rfl | exact .inr rfl | assumption) :
    PZ1 X R W (.Assign [.Name x pos'] e pos) (dSet i de) :=
  let ⟨_, p, s⟩ := he
  ⟨_, ps_set hN hi hx p hs hf, sz_set s⟩
theorem pz_setO {de : DE (List PyData)} (hN : X.N.Nodup) (hi : X.N[i]? = some x) (hx : Loc X.env.scope x) (he : PX X (RO X.K) e de) (hs : swapsWith e (some (.Name x pos')) pos.line X.env = pure false := by rfl) (hf : X.fn x = true ∨ X.env.scope.names.lookup x = some .local := by first | exact .inl rfl | exact .inr rfl | assumption) :
    PZ1 X R W (.Assign [.Name x pos'] e pos) (dSetO i de) :=
  let ⟨_, p, s⟩ := he
  ⟨_, ps_set hN hi hx p hs hf, sz_setO s⟩
end
/-! own lists changed -/
def dApp (i : Nat) (de : DE PyData) : DS α := fun q env => match env[i]? with
  | some (some (.own ds)) => de env fun x => ds.length < 1000000 ∧ q.nx (env.set i (some (.own (ds ++ [x]))))
  | _ => False
theorem line6 : 1000000 ≤ sizeLine := by decide
theorem pz_app {i : Nat} {o a : Expr} {apos cpos : Pos} {de : DE PyData} (ho : PE X o (tVar i)) (ha : PX X (RS X.K) a de) (hbase : attributeBase o "append" X.env (eval o X.env) = eval o X.env := by rfl)
    (hfew : ((backTo cpos (starEach [a] X.env)).all (fun x => !x.1) && (backToKw cpos (keywordEach [] X.env)).all (fun x => x.1.isSome)
      && decide (([a] : List Expr).length + ([] : List Keyword).length + (if ([] : List Keyword).isEmpty then 0 else 1) < 30)) = true := by rfl)
    (hline : (apos.endLine == cpos.line) = true := by rfl) (hs : starEach [a] X.env = (false, eval a X.env) :: starEach [] X.env := by rfl) (hplain : (backTo cpos (starEach [] X.env)).any (·.1) = false := by rfl) (hsw : swapsWith (.Call (.Attribute o "append" apos) [a] [] cpos) none pos.line X.env = pure false := by rfl) :
    PZ1 X R W (.Expr (.Call (.Attribute o "append" apos) [a] [] cpos) pos) (dApp i de) :=
  let ⟨_, p, s⟩ := ha
  ⟨_, ps_expr (pe_bm PySem.F.plainAttrs_list PySem.F.slot_list_append PySem.F.type_list_append mt_append ho (pa_cons p pa_nil hs) hbase hfew hline hs hplain) hsw, fun He H0e σ H0 H env w q D h c => by
    unfold dApp at h
    split at h
    · rename_i ds hx
      obtain ⟨b, xs, h1, h2, h3, h4⟩ := w.r.own i ds hx
      refine ⟨_, h1, .inl ⟨rfl, xs, SqL.of h3⟩, s σ H0 H env w.r _ _ h fun H1 H' v y st hr hq => ?_⟩
      have hl : xs.length < sizeLine := by
        rw [dpAll_len h4]
        exact Nat.lt_of_lt_of_le hq.1 line6
      refine ⟨b, xs, v, rfl, rfl, st.e _ _ h3, hl, ?_⟩
      exact c.nx _ H1 _ _ ((w.step st).mut hx h1 (dpAll_app (h4.up st.e0) (.cons hr .nil))) st.e0 hq.2
    · exact h.elim⟩
def dExt (i : Nat) (de : DE (List PyData)) : DS α := fun q env => match env[i]? with
  | some (some (.own ds)) => de env fun es => ds.length + es.length ≤ 1000000 ∧ q.nx (env.set i (some (.own (ds ++ es))))
  | _ => False
theorem pz_ext {i : Nat} {o a : Expr} {apos cpos : Pos} {de : DE (List PyData)} (ho : PE X o (tVar i)) (ha : PX X (RM X.K) a de) (hbase : attributeBase o "extend" X.env (eval o X.env) = eval o X.env := by rfl)
    (hfew : ((backTo cpos (starEach [a] X.env)).all (fun x => !x.1) && (backToKw cpos (keywordEach [] X.env)).all (fun x => x.1.isSome)
      && decide (([a] : List Expr).length + ([] : List Keyword).length + (if ([] : List Keyword).isEmpty then 0 else 1) < 30)) = true := by rfl)
    (hline : (apos.endLine == cpos.line) = true := by rfl) (hs : starEach [a] X.env = (false, eval a X.env) :: starEach [] X.env := by rfl) (hplain : (backTo cpos (starEach [] X.env)).any (·.1) = false := by rfl) (hsw : swapsWith (.Call (.Attribute o "extend" apos) [a] [] cpos) none pos.line X.env = pure false := by rfl) :
    PZ1 X R W (.Expr (.Call (.Attribute o "extend" apos) [a] [] cpos) pos) (dExt i de) :=
  let ⟨_, p, s⟩ := ha
  ⟨_, ps_expr (pe_bm PySem.F.plainAttrs_list PySem.F.slot_list_extend PySem.F.type_list_extend mt_extend ho (pa_cons p pa_nil hs) hbase hfew hline hs hplain) hsw, fun He H0e σ H0 H env w q D h c => by
    unfold dExt at h
    split at h
    · rename_i ds hx
      obtain ⟨b, xs, h1, h2, h3, h4⟩ := w.r.own i ds hx
      refine ⟨_, h1, .inl ⟨rfl, xs, SqL.of h3⟩, s σ H0 H env w.r _ _ h fun H1 H' v es st ⟨b2, ys, g1, g2, g3⟩ hq => ?_⟩
      subst g1
      have hl : xs.length + ys.length ≤ sizeLine := by
        rw [dpAll_len h4, dpAll_len g3]
        exact Nat.le_trans hq.1 line6
      refine ⟨b, b2, xs, ys, rfl, rfl, st.e _ _ h3, g2, hl, ?_⟩
      exact c.nx _ H1 _ _ ((w.step st).mut hx h1 (dpAll_app (h4.up st.e0) g3)) st.e0 hq.2
    · exact h.elim⟩
def dPop (i : Nat) : DS α := fun q env => match env[i]? with
  | some (some (.own ds)) => 0 < ds.length ∧ q.nx (env.set i (some (.own ds.dropLast)))
  | _ => False
theorem pz_pop {i : Nat} {o : Expr} {apos cpos : Pos} (ho : PE X o (tVar i)) (hbase : attributeBase o "pop" X.env (eval o X.env) = eval o X.env := by rfl) (hline : (apos.endLine == cpos.line) = true := by rfl)
    (hsw : swapsWith (.Call (.Attribute o "pop" apos) [] [] cpos) none pos.line X.env = pure false := by rfl) : PZ1 X R W (.Expr (.Call (.Attribute o "pop" apos) [] [] cpos) pos) (dPop i) :=
  ⟨_, ps_expr (pe_bm0 PySem.F.plainAttrs_list PySem.F.slot_list_pop PySem.F.type_list_pop mt_pop ho hbase hline) hsw, fun He H0e σ H0 H env w q D h c => by
    unfold dPop at h
    split at h
    · rename_i ds hx
      obtain ⟨b, xs, h1, h2, h3, h4⟩ := w.r.own i ds hx
      have hl := dpAll_len h4
      have hlt : xs.length - 1 < xs.length := by omega
      refine ⟨_, h1, .inl ⟨rfl, xs, SqL.of h3⟩, b, xs, xs[xs.length - 1], rfl, rfl, h3, List.getElem?_eq_getElem hlt, ?_⟩
      exact c.nx _ H0 _ _ (w.mut hx h1 (dpAll_dropLast h4)) (Same.refl _) h.2
    · exact h.elim⟩
def fPut (ds : List PyData) (k x : PyData) (nx : List PyData → Prop) : Prop := match k with
  | .int j => (match ixN ds.length j with
    | some n => nx (ds.set n x)
    | none => False)
  | _ => False
theorem fPut_of {ds : List PyData} {k x : PyData} {nx : List PyData → Prop} (h : fPut ds k x nx) : ∃ j n, k = .int j ∧ ixN ds.length j = some n ∧ nx (ds.set n x) := by
  cases k with
  | int j =>
    unfold fPut at h
    cases hj : ixN ds.length j with
    | none => simp only [hj] at h
    | some n =>
      simp only [hj] at h
      exact ⟨j, n, rfl, hj, h⟩
  | _ => exact h.elim
def dPut (i : Nat) (dk de : DE PyData) : DS α := fun q env => de env fun x => match env[i]? with
  | some (some (.own ds)) => dk env fun k => fPut ds k x fun es => q.nx (env.set i (some (.own es)))
  | _ => False
theorem pz_put {i : Nat} {o k a : Expr} {tpos : Pos} {dk de : DE PyData} (ho : PE X o (tVar i)) (hk : PX X (RU X.K) k dk) (ha : PX X (RS X.K) a de)
    (hav : ∀ v, assign (.Subscript o k tpos) X.env v = (do
      let ov ← holding [v] (eval o X.env)
      let iv ← holding [v, ov] (eval k X.env)
      standAt tpos
      holding [v, ov, iv] (setItem ov iv v)
      release [v, ov, iv] []) := by intro _; rfl)
    (hs : swapsWithSole [.Subscript o k tpos] a pos.line X.env = pure false := by rfl) (hw : swappedStores [.Subscript o k tpos] a X.env = pure none := by rfl)
    (h1 : (assignEach [.Subscript o k tpos] X.env).map (·.2) = [assign (.Subscript o k tpos) X.env] := by rfl) : PZ1 X R W (.Assign [.Subscript o k tpos] a pos) (dPut i dk de) :=
  let ⟨_, p, s⟩ := ha
  let ⟨_, p2, s2⟩ := hk
  ⟨_, ps_asg p (pg_sub ho p2 set_list hav) hs hw h1, fun He H0e σ H0 H env w q D h c => by
    refine s σ H0 H env w.r _ _ h fun H1 H' v x st hr hq => ?_
    have wst := w.step st
    split at hq
    · rename_i ds hx
      obtain ⟨b, xs, h1, h2, h3, h4⟩ := wst.r.own i ds hx
      refine ⟨_, h1, s2 σ H1 H' env wst.r _ _ hq fun H2 H'' u k st2 hk hq2 => ?_⟩
      obtain ⟨j, n, rfl, hj, hn⟩ := fPut_of hq2
      have hk' : Dp X.K H'' u (.int j) := hk
      cases hk'
      refine ⟨b, xs, j, n, rfl, rfl, st2.e _ _ h3, by rw [dpAll_len h4]; exact hj, ?_⟩
      exact c.nx _ H2 _ _ ((wst.step st2).mut hx h1 (dpAll_set (Dp.up hr st2.e0) n (h4.up st2.e0))) (st.e0.trans st2.e0) hn
    · exact hq.elim⟩
/-! if, while, for -/
def dIf (dt : DE Bool) (a b : DS α) : DS α := fun q env => dt env fun c => (c = true → a q env) ∧ (c = false → b q env)
theorem pz_if {c : Expr} {sa sb : List Stmt} {dt : DE Bool} (hc : PXT X c dt) (ha : PZ X R W sa d) (hb : PZ X R W sb d') : PZ1 X R W (.If c sa sb pos) (dIf dt d d') :=
  let ⟨_, p, s⟩ := hc
  let ⟨_, p1, s1⟩ := ha
  let ⟨_, p2, s2⟩ := hb
  ⟨_, ps_if p p1 p2, fun He H0e σ H0 H env w q D h c => s σ H0 H env w.r _ _ h fun H1 H' b st hq => by
    cases b with
    | true =>
      rw [if_pos rfl]
      exact s1 He H0e σ H1 H' env (w.step st) q D (hq.1 rfl) (c.up st.e0)
    | false =>
      rw [if_neg Bool.false_ne_true]
      exact s2 He H0e σ H1 H' env (w.step st) q D (hq.2 rfl) (c.up st.e0)⟩
def dWhile (dt : DE Bool) (b : DS α) : DS α := fun q env => ∃ W : Nat → En → Prop, (∃ m, W m env) ∧ ∀ m env, W m env → dt env fun c =>
  (c = true → b { q with nx := fun env' => ∃ m', m' < m ∧ W m' env', ct := fun env' => ∃ m', m' < m ∧ W m' env', bk := q.nx } env) ∧ (c = false → q.nx env)
theorem pz_while {c : Expr} {body : List Stmt} {dt : DE Bool} (hp : PassesOwn (model X.prog X.w) X.A X.env X.xe) (hc : PXT X c dt) (hb : PZ X R W body d) : PZ1 X R W (.While c body [] pos) (dWhile dt d) :=
  let ⟨_, p, s⟩ := hc
  let ⟨_, p1, s1⟩ := hb
  ⟨_, ps_while hp p p1, fun He H0e σ H0 H env w q D h c => by
    obtain ⟨W, ⟨m0, h0⟩, turn⟩ := h
    refine ⟨fun m σ' H' => ∃ H1 env', WS X.K He H0e σ' H1 H' env' ∧ Same H0 H1 ∧ W m env', ⟨m0, H0, env, w, Same.refl _, h0⟩, ?_⟩
    rintro m σ' H' ⟨H1, env', w', sg, hW⟩
    refine s σ' H1 H' env' w'.r _ _ (turn m env' hW) fun H2 H'' b st hq => ?_
    cases b with
    | true =>
      rw [if_pos rfl]
      refine ⟨fun σ3 H3 => ∃ m', m' < m ∧ ∃ H1 env', WS X.K He H0e σ3 H1 H3 env' ∧ Same H0 H1 ∧ W m' env', fun σ3 H3 z => z, ?_⟩
      refine s1 He H0e σ' H2 H'' env' (w'.step st) _ _ (hq.1 rfl) ⟨?_, ?_, ?_, c.rt, fun x σ H0 H env w s h => c.ex x σ H0 H env w ((sg.trans st.e0).trans s) h⟩
      · rintro σ4 H4 H4' env4 w4 s4 ⟨m', l, hW'⟩
        exact ⟨m', l, H4, env4, w4, (sg.trans st.e0).trans s4, hW'⟩
      · intro σ4 H4 H4' env4 w4 s4 hq'
        exact c.nx _ _ _ _ w4 ((sg.trans st.e0).trans s4) hq'
      · rintro σ4 H4 H4' env4 w4 s4 ⟨m', l, hW'⟩
        exact ⟨m', l, H4, env4, w4, (sg.trans st.e0).trans s4, hW'⟩
    | false =>
      rw [if_neg Bool.false_ne_true]
      exact c.nx _ H2 H'' env' (w'.step st) (sg.trans st.e0) (hq.2 rfl)⟩
/-! what is walked -/
def ItOk (K : PySem.W.Frag) (H1 : Hp) (J : It) (ds : List PyData) : Prop :=
  (∀ i H, Same H1 H → i < ds.length → J.go i H) ∧ (∀ i H x H', Same H1 H → i < ds.length → J.yld i H x H' → H' = H ∧ ∃ d, ds[i]? = some d ∧ Dp K H1 x d) ∧ (∀ i H, Same H1 H → ds.length ≤ i → J.stop i H)
def PXI (X : Cx) (tg iter : Expr) (di : DE (List PyData)) : Prop := ∃ wi, PI X tg iter wi ∧
  ∀ σ H0 H env, Rel X.K σ H0 H env → ∀ (q : List PyData → Prop) (Q : It → Hp → Prop), di env q → (∀ H1 H' J ds, Stp H0 H H1 H' → ItOk X.K H1 J ds → q ds → Q J H') → wi σ H Q
theorem itOk_tup {K : PySem.W.Frag} {H1 : Hp} {a : Addr} {xs : List V} {ds : List PyData} (h : SqT K H1 a xs) (h2 : DpAll K H1 xs ds) (inj : ∀ (H : Hp) ys, Same H1 H → SqT K H a ys → ys = xs) : ItOk K H1 (Itt K a) ds := by
  have hl := dpAll_len h2
  refine ⟨fun i H e hi => ?_, fun i H x H' e hi y => ?_, fun i H e hi => ?_⟩
  · exact ⟨xs, xs[i], sqT_mono e h, List.getElem?_eq_getElem (by omega)⟩
  · obtain ⟨y1, y2⟩ := y
    refine ⟨y1, ?_⟩
    obtain ⟨d, h3, h4⟩ := dpAll_getV h2 (y2 xs (sqT_mono e h))
    exact ⟨d, h3, h4⟩
  · exact ⟨xs, sqT_mono e h, by omega⟩
theorem itOk_lst {K : PySem.W.Frag} {H1 : Hp} {a : Addr} {xs : List V} {ds : List PyData} (h : SqL K H1 a xs) (h2 : DpAll K H1 xs ds) : ItOk K H1 (Itl K a) ds := by
  have hl := dpAll_len h2
  refine ⟨fun i H e hi => ?_, fun i H x H' e hi y => ?_, fun i H e hi => ?_⟩
  · exact ⟨xs, xs[i], Same.seq e h, List.getElem?_eq_getElem (by omega)⟩
  · obtain ⟨y1, y2⟩ := y
    refine ⟨y1, ?_⟩
    obtain ⟨d, h3, h4⟩ := dpAll_getV h2 (y2 xs (Same.seq e h))
    exact ⟨d, h3, h4⟩
  · exact ⟨xs, Same.seq e h, by omega⟩
section
variable {tg : Expr} {p : Pos}
theorem pxi_tup {de : DE PyData} (h : PX X (RS X.K) e de) : PXI X tg e (dAsT de) :=
  let ⟨_, p1, s1⟩ := h
  ⟨_, pi_tup p1, fun σ H0 H env rr q Q hd k => s1 σ H0 H env rr _ _ hd fun H1 H' v x st hv hq => by
    cases x with
    | tuple ds =>
      have hv' : Dp X.K H1 v (.tuple ds) := hv
      cases hv' with
      | tup a1 a2 =>
        refine ⟨_, rfl, ⟨_, sqT_mono st.i a1⟩, k H1 H' _ ds st ?_ hq⟩
        have hl := dpAll_len a2
        refine ⟨fun i H e hi => ⟨_, _, sqT_mono e a1, List.getElem?_eq_getElem (by omega)⟩, fun i H x H' e hi y => ⟨y.1, ?_⟩, fun i H e hi => ⟨_, sqT_mono e a1, by omega⟩⟩
        obtain ⟨d, h3, h4⟩ := dpAll_getV a2 (y.2 _ (sqT_mono e a1))
        exact ⟨d, h3, h4⟩
    | _ => exact hq.elim⟩
theorem pxi_lst {de : DE PyData} (h : PX X (RS X.K) e de) : PXI X tg e (dAsL de) :=
  let ⟨_, p1, s1⟩ := h
  ⟨_, pi_list p1, fun σ H0 H env rr q Q hd k => s1 σ H0 H env rr _ _ hd fun H1 H' v x st hv hq => by
    cases x with
    | list ds =>
      have hv' : Dp X.K H1 v (.list ds) := hv
      cases hv' with
      | lst a1 a2 => exact ⟨_, rfl, ⟨_, Same.seq st.i a1⟩, k H1 H' _ ds st (itOk_lst a1 a2) hq⟩
    | _ => exact hq.elim⟩
def rngD (lo : Int) (n : Nat) : List PyData := (List.range n).map fun (i : Nat) => PyData.int (lo + (i : Int))
theorem rngD_len (lo : Int) (n : Nat) : (rngD lo n).length = n := by
  unfold rngD
  rw [List.length_map, List.length_range]
theorem rngD_get {lo : Int} {n i : Nat} (h : i < n) : (rngD lo n)[i]? = some (.int (lo + (i : Int))) := by
  unfold rngD
  rw [List.getElem?_map, List.getElem?_range h]
  rfl
theorem itOk_rng {K : PySem.W.Frag} {H1 : Hp} {lo : Int} {n : Nat} : ItOk K H1 (Itr lo n) (rngD lo n) := by
  refine ⟨fun i H e hi => by rw [rngD_len] at hi; exact hi, fun i H x H' e hi y => ⟨y.1, ?_⟩, fun i H e hi => by rw [rngD_len] at hi; exact hi⟩
  rw [rngD_len] at hi
  refine ⟨_, rngD_get hi, ?_⟩
  rw [y.2]
  exact .int _
def dRng1 (da : DE PyData) : DE (List PyData) := fun env q => da env fun d => match d with
  | .int j => (-1000000000 ≤ j ∧ j ≤ 1000000000) ∧ q (rngD 0 j.toNat)
  | _ => False
theorem pxi_rng1 {a : Expr} {da : DE PyData} (hg : Gl X "range") (hm : X.mg "range" = none) (ha : PX X (RU X.K) a da) (hs : starEach [a] X.env = (false, eval a X.env) :: starEach [] X.env := by rfl) (hs' : starEach [a] X.env = [(false, eval a X.env)] := by rfl) : PXI X tg (.Call (.Name "range" p) [a] [] pos) (dRng1 da) :=
  let ⟨_, p1, s1⟩ := ha
  ⟨_, pi_range1 hg hm (pa_cons p1 pa_nil hs) hs', fun σ H0 H env rr q Q hd k => s1 σ H0 H env rr _ _ hd fun H1 H' v x st hv hq => by
    cases x with
    | int j =>
      have hv' : Dp X.K H' v (.int j) := hv
      cases hv'
      exact ⟨j, rfl, by have := hq.1; omega, by have := hq.1; omega, k H1 H' _ _ st itOk_rng hq.2⟩
    | _ => exact hq.elim⟩
def dRng2 (da db : DE PyData) : DE (List PyData) := fun env q => da env fun d => db env fun e => match d, e with
  | .int i, .int j => (-1000000000 ≤ i ∧ i ≤ 1000000000 ∧ -1000000000 ≤ j ∧ j ≤ 1000000000) ∧ q (rngD i (j - i).toNat)
  | _, _ => False
theorem pxi_rng2 {a b : Expr} {da db : DE PyData} (hg : Gl X "range") (hm : X.mg "range" = none) (ha : PX X (RU X.K) a da) (hb : PX X (RU X.K) b db) (hs : starEach [a, b] X.env = (false, eval a X.env) :: starEach [b] X.env := by rfl)
    (hs2 : starEach [b] X.env = (false, eval b X.env) :: starEach [] X.env := by rfl) (hs3 : starEach [a, b] X.env = [(false, eval a X.env), (false, eval b X.env)] := by rfl) (hs4 : starEach [b] X.env = [(false, eval b X.env)] := by rfl) : PXI X tg (.Call (.Name "range" p) [a, b] [] pos) (dRng2 da db) :=
  let ⟨_, p1, s1⟩ := ha
  let ⟨_, p2, s2⟩ := hb
  ⟨_, pi_range2 hg hm (pa_cons p1 (pa_cons p2 pa_nil hs2) hs) hs3 hs4, fun σ H0 H env rr q Q hd k => s1 σ H0 H env rr _ _ hd fun H1 H' v x st hv hq => s2 σ H1 H' env (rr.step st) _ _ hq fun H2 H'' w y st2 hw hq2 => by
    have hv' : Dp X.K H'' v x := Dp.up hv st2.e
    have hw' : Dp X.K H'' w y := hw
    cases x with
    | int i =>
      cases y with
      | int j =>
        cases hv'
        cases hw'
        exact ⟨i, j, rfl, by have := hq2.1; omega, k H2 H'' _ _ (st.trans st2) itOk_rng hq2.2⟩
      | _ => exact hq2.elim
    | _ => exact hq2.elim⟩
def dRev (da : DE PyData) : DE (List PyData) := fun env q => dAsT da env fun ds => q ds.reverse
theorem pxi_revT {a : Expr} {da : DE PyData} (hg : Gl X "reversed") (hm : X.mg "reversed" = none) (ha : PX X (RS X.K) a da) (hs : starEach [a] X.env = (false, eval a X.env) :: starEach [] X.env := by rfl) : PXI X tg (.Call (.Name "reversed" p) [a] [] pos) (dRev da) :=
  let ⟨_, p1, s1⟩ := ha
  ⟨_, RT.pi_revA hg hm p1 hs, fun σ H0 H env rr q Q hd k => s1 σ H0 H env rr _ _ hd fun H1 H' v x st hv hq => by
    cases x with
    | tuple ds =>
      have hv' : Dp X.K H1 v (.tuple ds) := hv
      cases hv' with
      | @tup a xs _ a1 a2 =>
        refine ⟨_, _, rfl, .inr ⟨sqT_mono st.i a1, k H1 H' _ _ st ?_ hq⟩⟩
        have hl := dpAll_len a2
        refine ⟨fun i H e hi => ?_, fun i H x H' e hi y => ⟨y.1, ?_⟩, fun i H e hi => ?_⟩
        · rw [List.length_reverse] at hi
          exact ⟨by omega, xs, xs[xs.length - 1 - i], sqT_mono e a1, List.getElem?_eq_getElem (by omega)⟩
        · rw [List.length_reverse] at hi
          obtain ⟨d, h3, h4⟩ := dpAll_getV a2 (y.2 _ (sqT_mono e a1))
          refine ⟨d, ?_, h4⟩
          rw [List.getElem?_reverse hi, ← hl]
          exact h3
        · rw [List.length_reverse] at hi
          show xs.length ≤ i
          omega
    | _ => exact hq.elim⟩
end
def dFor (di : DE (List PyData)) (j : Nat) (b : DS α) : DS α := fun q env => di env fun ds => ∃ P : Nat → En → Prop, P 0 env ∧
  (∀ (i : Nat) x env, ds[i]? = some x → P i env → b { q with nx := P (i + 1), ct := P (i + 1), bk := q.nx } (env.set j (some (.val x)))) ∧ (∀ env, P ds.length env → q.nx env)
theorem pz_for {tg iter : Expr} {body : List Stmt} {di : DE (List PyData)} {j : Nat} (hp : PassesOwn (model X.prog X.w) X.A X.env X.xe) (hc : X.calm = true) (hi : PXI X tg iter di) (hg : PG X tg (gName j)) (hb : PZ X R W body d)
    (hs : ∀ x, foldedSetIterable iter X.env x = pure x := by intro _; rfl) : PZ1 X R W (.For tg iter body [] pos) (dFor di j d) :=
  let ⟨_, p, s⟩ := hi
  let ⟨_, p1, s1⟩ := hb
  ⟨_, ps_for hp hc p hg p1 hs, fun He H0e σ H0 H env w q D h c => s σ H0 H env w.r _ _ h fun H1 H' J ds st io hq => by
    obtain ⟨P, h0, hturn, hend⟩ := hq
    obtain ⟨io1, io2, io3⟩ := io
    refine ⟨fun i m σ' H'' => m = ds.length - i ∧ i ≤ ds.length ∧ ∃ H2 env', WS X.K He H0e σ' H2 H'' env' ∧ Same H1 H2 ∧ P i env', ⟨_, rfl, Nat.zero_le _, H1, env, w.step st, Same.refl _, h0⟩, ?_⟩
    rintro i m σ' H'' ⟨rfl, hile, H2, env', w', sg, hP⟩
    have sh : Same H1 H'' := sg.trans w'.r.i
    by_cases hlt : i < ds.length
    · refine .inr ⟨io1 i H'' sh hlt, fun σ3 H3 => ∃ H2 env', WS X.K He H0e σ3 H2 H3 env' ∧ Same H1 H2 ∧ P (i + 1) env', fun σ3 H3 z => ⟨ds.length - (i + 1), by omega, rfl, hlt, z⟩, fun x H3 y => ?_⟩
      obtain ⟨e1, d, hd, hx⟩ := io2 i H'' x H3 sh hlt y
      subst e1
      refine s1 He H0e _ H2 _ _ (w'.setV (Dp.up hx sg)) _ _ (hturn i d env' hd hP) ⟨?_, ?_, ?_, c.rt, fun x σ H0 H env w s h => c.ex x σ H0 H env w ((st.e0.trans sg).trans s) h⟩
      · intro σ4 H4 H4' env4 w4 s4 hq'
        exact ⟨H4, env4, w4, sg.trans s4, hq'⟩
      · intro σ4 H4 H4' env4 w4 s4 hq'
        exact c.nx _ _ _ _ w4 ((st.e0.trans sg).trans s4) hq'
      · intro σ4 H4 H4' env4 w4 s4 hq'
        exact ⟨H4, env4, w4, sg.trans s4, hq'⟩
    · have e : i = ds.length := by omega
      subst e
      exact .inl ⟨io3 _ H'' sh (Nat.le_refl _), c.nx _ H2 H'' env' w' (st.e0.trans sg) (hend env' hP)⟩⟩
end
/-! ### a def by its body -/
def en0 (m : Nat) (ds : List PyData) : En := ds.map (fun d => some (.val d)) ++ List.replicate m none
def fnc {α : Type} (m : Nat) (d : DS α) : Fn α := fun ds q => d { nx := fun _ => False, rt := q } (en0 m ds)
theorem rel_start {K : PySem.W.Frag} {H0 H : Hp} {N : List Str} {vs : List V} {ds : List PyData} {m : Nat} (i : Same H0 H) (h : DpAll K H0 vs ds) (hm : N.length - vs.length = m) : Rel K (L2.start N vs) H0 H (en0 m ds) := by
  have hl := dpAll_len h
  have key : ∀ (n : Nat) (s : Sl), (en0 m ds)[n]? = some (some s) → ∃ d, ds[n]? = some d ∧ s = .val d := fun n s e => by
    unfold en0 at e
    by_cases hn : n < ds.length
    · rw [List.getElem?_append_left (by rw [List.length_map]; exact hn), List.getElem?_map, List.getElem?_eq_getElem hn] at e
      have e' := Option.some.inj (Option.some.inj e)
      exact ⟨ds[n], List.getElem?_eq_getElem hn, e'.symm⟩
    · rw [List.getElem?_append_right (by rw [List.length_map]; omega), List.getElem?_replicate] at e
      split at e
      · cases Option.some.inj e
      · cases e
  refine ⟨i, ?_, fun n d e => ?_, fun n xs e => ?_, fun n m xs es a e1 e2 e3 e4 => ?_⟩
  · unfold L2.start en0
    rw [List.length_append, List.length_append, List.length_map, List.length_map, List.length_replicate, List.length_replicate, hl, ← hm, hl]
  · obtain ⟨d', h1, h2⟩ := key n _ e
    cases h2
    obtain ⟨v, h3, h4⟩ := dpAll_get h h1
    refine ⟨v, ?_, h4⟩
    unfold L2.start
    have hn : n < vs.length := (List.getElem?_eq_some_iff.mp h3).1
    rw [List.getElem?_append_left (by rw [List.length_map]; exact hn), List.getElem?_map, h3]
    rfl
  · obtain ⟨d', h1, h2⟩ := key n _ e
    cases h2
  · obtain ⟨d', h1, h2⟩ := key n _ e1
    cases h2
theorem en0_val {m : Nat} {ds : List PyData} {n : Nat} {xs : List PyData} : (en0 m ds)[n]? ≠ some (some (.own xs)) := fun e => by
  unfold en0 at e
  by_cases hn : n < ds.length
  · rw [List.getElem?_append_left (by rw [List.length_map]; exact hn), List.getElem?_map, List.getElem?_eq_getElem hn] at e
    cases Option.some.inj (Option.some.inj e)
  · rw [List.getElem?_append_right (by rw [List.length_map]; omega), List.getElem?_replicate] at e
    split at e
    · cases Option.some.inj e
    · cases e
theorem fn_ok {P : Program} {w : World} {K : PySem.W.Frag} {mg : Str → Option Value} {base : Heap} {x qual : Str} {st : Stmt} {f : Addr} {fd : FuncData} {N ps : List Str} {k n m : Nat} {α : Type} {R : PySem.W.Frag → KR α} {d : DS α}
    (F : Fun K x qual st f fd) (S : FnScope N ps (defScope st)) (hn : ps.length = n) (hm : N.length - n = m)
    (body : ∀ (cdv : Value) (A : Around) (outer : List Env) (s : Shared) (H : Hp) (E : XK), Room k (A.deeper (envOfC qual (defScope st) s.heap.objs.size f cdv)) → PZ (cxOf CX0 P w K mg base N qual (defScope st) f cdv A outer s H E).nox R (fun _ _ _ => False) (defBody st) d) :
    FnOk P w K mg base CX0 (k + 1) f fd ps (spD K R (fnc m d) n) := by
  refine F.ok S (fun vs H Q E h => ?_) (fun cdv A outer s H vs Q E hr h => ?_)
  · obtain ⟨H0, ds, q, h1, _⟩ := h
    rw [h1, hn]
  · obtain ⟨H0, ds, q, h1, h2, h3, h4, h5⟩ := h
    obtain ⟨t, p, sz⟩ := body cdv A outer s H E hr
    refine ⟨t, p, ?_⟩
    have rr : Rel K (L2.start N vs) H0 H (en0 m ds) := rel_start h2 h3 (by rw [h1]; exact hm)
    exact sz H H0 (L2.start N vs) H0 H (en0 m ds) ⟨rr, Stp.rfl h2, fun i xs a e => (en0_val e).elim⟩ { nx := fun _ => False, rt := q } _ h4 ⟨fun _ _ _ _ _ _ z => z.elim, fun _ _ _ _ _ _ z => z.elim, fun _ _ _ _ _ _ z => z.elim, fun H1 H' v a st hr hq => h5 H1 H' v a st hr hq, fun _ _ _ _ _ _ _ z => z.elim⟩
end DL
namespace DL
open PySem PySem.Spec PyProof.Rows L2
/-! ### list comprehensions -/
def TD (K : PySem.W.Frag) {α : Type} (R : KR α) (de : DE α) : TE := fun σ H Q => ∃ H0 env q, Rel K σ H0 H env ∧ de env q ∧ ∀ H1 H' v a, Stp H0 H H1 H' → R H H1 H' v a → q a → Q v H'
theorem px_pe {X : Cx} {α : Type} {R : KR α} {e : Expr} {de : DE α} (h : PX X R e de) : PE X e (TD X.K R de) :=
  let ⟨_, p, s⟩ := h
  ⟨fun pins s' σ H Q I ⟨H0, env, q, r, hd, k⟩ => p.run pins s' σ H Q I (s σ H0 H env r q Q hd k)⟩
def TTD (K : PySem.W.Frag) (dt : DE Bool) : TT := fun σ H Q => ∃ H0 env q, Rel K σ H0 H env ∧ dt env q ∧ ∀ H1 H' b, Stp H0 H H1 H' → q b → Q b H'
theorem pxt_pt {X : Cx} {e : Expr} {dt : DE Bool} (h : PXT X e dt) : PT X e (TTD X.K dt) :=
  let ⟨_, p, s⟩ := h
  ⟨fun pins s' σ H Q I ⟨H0, env, q, r, hd, k⟩ => p.run pins s' σ H Q I (s σ H0 H env r q Q hd k)⟩
def dTrue : DE Bool := fun _ q => q true
def PXTs (X : Cx) (ifs : List Expr) (dt : DE Bool) : Prop := PTs X ifs (TTD X.K dt)
theorem pxts_nil {X : Cx} : PXTs X [] dTrue := ⟨fun pins s σ H Q I ⟨H0, env, q, r, hd, k⟩ => pts_nil.run pins s σ H Q I (k H0 H true (Stp.rfl r.i) hd)⟩
theorem pxts_one {X : Cx} {c : Expr} {dt : DE Bool} (h : PXT X c dt) : PXTs X [c] dt := pts_one (pxt_pt h)
def lcGo (j : Nat) (dt : DE Bool) (de : DE PyData) (env : En) : List PyData → List PyData → (List PyData → Prop) → Prop
  | [], acc, q => q acc
  | x :: r, acc, q => dt (env.set j (some (.val x))) fun b => (b = true → de (env.set j (some (.val x))) fun y => lcGo j dt de env r (acc ++ [y]) q) ∧ (b = false → lcGo j dt de env r acc q)
def dLc (di : DE (List PyData)) (j : Nat) (dt : DE Bool) (de : DE PyData) : DE (List PyData) := fun env q => di env fun ds => ds.length ≤ 1000000 ∧ lcGo j dt de (env.set j none) ds [] q
theorem s_lc {K : PySem.W.Frag} {wi : TI} {j : Nat} {di : DE (List PyData)} {dt : DE Bool} {de : DE PyData}
    (s : ∀ σ H0 H env, Rel K σ H0 H env → ∀ (q : List PyData → Prop) (Q : It → Hp → Prop), di env q → (∀ H1 H' J ds, Stp H0 H H1 H' → ItOk K H1 J ds → q ds → Q J H') → wi σ H Q) :
    SE K (RO K) (tLc wi (gName j) (TTD K dt) (TD K (RS K) de) [j]) (dLc di j dt de) := fun σ H0 H env rr q Q hd k => by
  refine s σ H0 H env rr _ _ hd fun H1 H' J ds st ⟨io1, io2, io3⟩ ⟨hlen, hgo⟩ => ?_
  intro D hD
  have r1 : Rel K (σ.set j none) H1 H' (env.set j none) := (rr.step st).setN
  have ew : wipe σ [j] = σ.set j none := rfl
  refine ⟨fun i m H'' => m = ds.length - i ∧ i ≤ ds.length ∧ ∃ Hs xs acc, Stp H1 H' Hs H'' ∧ Hs D = none ∧ H'' D = some (.lst xs) ∧ DpAll K Hs xs acc ∧ acc.length ≤ i ∧ lcGo j dt de (env.set j none) (ds.drop i) acc q,
    ⟨_, rfl, Nat.zero_le _, H1, [], [], Stp.stay st.i (same_new hD), st.i.free hD, upd_same, .nil, Nat.zero_le _, hgo⟩, ?_⟩
  rintro i m H'' ⟨rfl, hile, Hs, xs, acc, s1, hDs, hD2, hacc, hal, hg⟩
  have sh : Same H1 H'' := s1.e0.trans s1.i
  by_cases hlt : i < ds.length
  · refine .inr ⟨io1 i H'' sh hlt, fun H3 => ∃ Hs xs acc, Stp H1 H' Hs H3 ∧ Hs D = none ∧ H3 D = some (.lst xs) ∧ DpAll K Hs xs acc ∧ acc.length ≤ i + 1 ∧ lcGo j dt de (env.set j none) (ds.drop (i + 1)) acc q,
      fun H3 z => ⟨ds.length - (i + 1), by omega, rfl, hlt, z⟩, fun x H3 y => ?_⟩
    obtain ⟨e1, d, hdi, hx⟩ := io2 i H'' x H3 sh hlt y
    subst e1
    have ed : ds.drop i = d :: ds.drop (i + 1) := by
      have h1 := List.drop_eq_getElem_cons hlt
      rw [h1]
      have h2 : ds[i] = d := by
        rw [List.getElem?_eq_getElem hlt] at hdi
        exact Option.some.inj hdi
      rw [h2]
    rw [ed] at hg
    have r2 : Rel K ((σ.set j none).set j (some x)) Hs H3 ((env.set j none).set j (some (.val d))) := (r1.step s1).setV (Dp.up hx s1.e0)
    refine ⟨?_, Hs, _, _, r2, hg, fun H4 H4' b st4 hb => ?_⟩
    · show (List.set (List.set (List.set σ j none) j (some x)) j none) = List.set σ j none
      rw [List.set_set, List.set_set]
    have nD : ∀ {A A' B B' : Hp}, Stp A A' B B' → A D = none → (∃ o, A' D = some o) → B D = none := fun {A A' B B'} z h1 ⟨o, h2⟩ => by
      cases hb : B D with
      | none => rfl
      | some u =>
        rcases z.nw D u hb with ⟨v, h3⟩ | h3
        · rw [h1] at h3; cases h3
        · rw [h2] at h3; cases h3
    have hD4 : H4 D = none := nD st4 hDs ⟨_, hD2⟩
    have hD4' : H4' D = some (.lst xs) := st4.e _ _ hD2
    cases b with
    | true =>
      refine iteT ?_
      refine ⟨H4, _, _, r2.step st4, hb.1 rfl, fun H5 H5' v a st5 hv hq5 => ?_⟩
      have hD5 : H5 D = none := nD st5 hD4 ⟨_, hD4'⟩
      have hD5' : H5' D = some (.lst xs) := st5.e _ _ hD4'
      have hx5 : DpAll K H5 xs acc := (hacc.up st4.e0).up st5.e0
      have sT := (s1.trans st4).trans st5
      refine ⟨xs, hD5', ?_, H5, xs ++ [v], acc ++ [a], ⟨sT.e0, fun b o e => ?_, fun b o e => ?_, sT.nw⟩, hD5, upd_same, dpAll_app hx5 (.cons hv .nil), ?_, hq5⟩
      · rw [dpAll_len hacc]
        exact Nat.lt_of_lt_of_le (show acc.length < 1000000 by omega) line6
      · rw [upd_ne (ne_of_none e hD)]
        exact sT.e _ _ e
      · rw [upd_ne (ne_of_none e hD5)]
        exact sT.i _ _ e
      · rw [List.length_append]
        show acc.length + 1 ≤ i + 1
        omega
    | false =>
      refine iteF ?_
      exact ⟨H4, xs, acc, s1.trans st4, hD4, hD4', hacc.up st4.e0, by omega, hb.2 rfl⟩
  · have e : i = ds.length := by omega
    subst e
    rw [List.drop_length] at hg
    exact .inl ⟨io3 _ H'' sh (Nat.le_refl _), k Hs H'' _ acc (st.trans s1) ⟨D, xs, rfl, st.e.free hD, hDs, hD2, hacc⟩ hg⟩
section
variable {X : Cx} {elt tg iter : Expr} {ifs : List Expr} {scope : Scope} {x : Str} {j : Nat} {pos : Pos} {di : DE (List PyData)} {dt : DE Bool} {de : DE PyData}
theorem px_lc (hc : X.calm = true) (hN : X.N.Nodup) (hi : PXI X tg iter di) (ok : BlkOk X.N X.env.scope scope [(x, j)])
    (hg : ∀ (s : Shared) (H : Hp) (C : Addr) (cl : List (Str × Addr)) (fp : List Addr), PG (X.blk s H scope (compEnvC scope cl C X.env) fp) tg (gName j))
    (ht : ∀ (s : Shared) (H : Hp) (C : Addr) (cl : List (Str × Addr)) (fp : List Addr), PXTs (X.blk s H scope (compEnvC scope cl C X.env) fp) ifs dt)
    (he : ∀ (s : Shared) (H : Hp) (C : Addr) (cl : List (Str × Addr)) (fp : List Addr), PX (X.blk s H scope (compEnvC scope cl C X.env) fp) (RS X.K) elt de) (hs : ∀ x, foldedSetIterable iter X.env x = pure x := by intro _; rfl) :
    PX X (RO X.K) (.ListComp elt [⟨tg, iter, ifs, 0⟩] scope pos) (dLc di j dt de) :=
  let ⟨_, p, s⟩ := hi
  ⟨_, pe_lc (own := [(x, j)]) (tt := TTD X.K dt) (te := TD X.K (RS X.K) de) hc hN p ok hg ht (fun s H C cl fp => px_pe (he s H C cl fp)) hs, s_lc s⟩
theorem pz_setLc {W : WN} {α : Type} {R : PySem.W.Frag → KR α} {i : Nat} {y : Str} {py spos : Pos} (hc : X.calm = true) (hN : X.N.Nodup) (hy : X.N[i]? = some y) (hyl : X.env.scope.names.lookup y = some .local)
    (hsw : swapsWith (.ListComp elt [⟨tg, iter, ifs, 0⟩] scope pos) (some (.Name y py)) spos.line X.env = pure true) (hi : PXI X tg iter di) (ok : BlkOk X.N X.env.scope scope [(x, j)])
    (hg : ∀ (s : Shared) (H : Hp) (C : Addr) (cl : List (Str × Addr)) (fp : List Addr), PG (X.blk s H scope (compEnvC scope cl C X.env) fp) tg (gName j))
    (ht : ∀ (s : Shared) (H : Hp) (C : Addr) (cl : List (Str × Addr)) (fp : List Addr), PXTs (X.blk s H scope (compEnvC scope cl C X.env) fp) ifs dt)
    (he : ∀ (s : Shared) (H : Hp) (C : Addr) (cl : List (Str × Addr)) (fp : List Addr), PX (X.blk s H scope (compEnvC scope cl C X.env) fp) (RS X.K) elt de) (hs : ∀ x, foldedSetIterable iter X.env x = pure x := by intro _; rfl) :
    PZ1 X R W (.Assign [.Name y py] (.ListComp elt [⟨tg, iter, ifs, 0⟩] scope pos) spos) (dSetO i (dLc di j dt de)) :=
  let ⟨_, p, s⟩ := hi
  ⟨_, ps_setLc (own := [(x, j)]) (tt := TTD X.K dt) (te := TD X.K (RS X.K) de) hc hN hy hyl hsw p ok hg ht (fun s H C cl fp => px_pe (he s H C cl fp)) hs, sz_setO (s_lc s)⟩
end
end DL
namespace DL
open PySem PySem.Spec PyProof.Rows L2
/-! ### a def of the text as a callee -/
structure Cal (P : Program) (w : World) (K : PySem.W.Frag) (mg : Str → Option Value) (base : Heap) (x : Str) {α : Type} (R : PySem.W.Frag → KR α) (c : Fn α) (n lvl : Nat) : Prop where
  ex : ∃ f fd ps, FnOk P w K mg base CX0 lvl f fd ps (spD K R c n) ∧ mg x = some (.ref f) ∧ PySem.W.keepIn K (.ref f) = true ∧ Binds K fd ps []
theorem _root_.L2.Room.units65 {k : Nat} {A : Around} (r : Room k A) : A.units + 65 < cLine := by
  have := r.un
  omega
section
variable {P : Program} {w : World} {K : PySem.W.Frag} {mg : Str → Option Value} {base : Heap} {x : Str} {α : Type} {R : PySem.W.Frag → KR α} {c c' : Fn α} {n lvl : Nat}
theorem Cal.imp (C : Cal P w K mg base x R c n lvl) (h : ∀ ds q, c' ds q → c ds q) : Cal P w K mg base x R c' n lvl :=
  let ⟨f, fd, ps, F, a, b, d⟩ := C.ex
  ⟨⟨f, fd, ps, F.imp fun vs H Q E ⟨H0, ds, q, h1, h2, h3, h4, h5⟩ => ⟨H0, ds, q, h1, h2, h3, h ds q h4, h5⟩, a, b, d⟩⟩
theorem Cal.up {l : Nat} (C : Cal P w K mg base x R c n lvl) (h : lvl ≤ l) : Cal P w K mg base x R c n l :=
  let ⟨f, fd, ps, F, a, b, d⟩ := C.ex
  ⟨⟨f, fd, ps, F.mono h, a, b, d⟩⟩
theorem fnok_imp {f : Addr} {fd : FuncData} {ps : List Str} {k : Nat} (F : FnOk P w K mg base CX0 k f fd ps (spD K R c n)) (h : ∀ ds q, c' ds q → c ds q) : FnOk P w K mg base CX0 k f fd ps (spD K R c' n) :=
  F.imp fun vs H Q E ⟨H0, ds, q, h1, h2, h3, h4, h5⟩ => ⟨H0, ds, q, h1, h2, h3, h ds q h4, h5⟩
/-- a def that is never called -/
theorem cal_never {f : Addr} {fd : FuncData} {ps : List Str} (hm : mg x = some (.ref f)) (hk : PySem.W.keepIn K (.ref f) = true) (hb : Binds K fd ps []) : Cal P w K mg base x R (fun _ _ => False) n lvl :=
  ⟨⟨f, fd, ps, ⟨fun vs H Q E ⟨_, _, _, _, _, _, h, _⟩ => h.elim, fun A outer s H args us vs Q E _ _ _ _ ⟨_, _, _, _, _, _, h, _⟩ => h.elim⟩, hm, hk, hb⟩⟩
end
section
variable {X : Cx} {e : Expr} {x : Str} {α : Type} {R : PySem.W.Frag → KR α} {c : Fn α} {k lvl : Nat} {p pos : Pos} {es : List Expr} {da : DE (List PyData)}
theorem px_cal (hR : KA (R X.K)) (C : Cal X.prog X.w X.K X.mg X.base x R c (e :: es).length lvl) (hr : Room lvl X.A) (hg : Gl X x) (ha : PXA X (e :: es) da)
    (hdb : (x == ("__debug__" : Str)) = false := by decide) (he : starEach (e :: es) X.env = (false, eval e X.env) :: starEach es X.env := by rfl) (hpl : (backTo pos (starEach es X.env)).any (·.1) = false := by rfl) :
    PX X (R X.K) (.Call (.Name x p) (e :: es) [] pos) (dF c da) :=
  let ⟨_, _, _, F, hm, hk, hb⟩ := C.ex
  px_call hR F hr hg hm hk hb ha hdb he hpl
theorem px_calU {c : Fn PyData} (C : Cal X.prog X.w X.K X.mg X.base x RS c (e :: es).length lvl) (hr : Room lvl X.A) (hg : Gl X x) (ha : PXB X (e :: es) da)
    (hdb : (x == ("__debug__" : Str)) = false := by decide) (he : starEach (e :: es) X.env = (false, eval e X.env) :: starEach es X.env := by rfl) (hpl : (backTo pos (starEach es X.env)).any (·.1) = false := by rfl) :
    PX X (RS X.K) (.Call (.Name x p) (e :: es) [] pos) (dFU c da) :=
  let ⟨_, _, _, F, hm, hk, hb⟩ := C.ex
  px_callU F hr hg hm hk hb ha hdb he hpl
end
/-! in, not in -/
def fInL : D2 := fun d e q => match e with
  | .list ds => SeqAt.shaped d = true ∧ SeqAt.shaped (.list ds) = true ∧ q (.bool (ds.any fun z => PyData.eqv z d))
  | _ => False
def fNotInL : D2 := fun d e q => match e with
  | .list ds => SeqAt.shaped d = true ∧ SeqAt.shaped (.list ds) = true ∧ q (.bool (!ds.any fun z => PyData.eqv z d))
  | _ => False
theorem od_inL {K : PySem.W.Frag} : OpD K (rInD K) fInL := by
  intro H x y d e q Q hx hy hf k
  cases e <;> try exact hf.elim
  exact ⟨d, _, hx, hy, hf.1, hf.2.1, k _ _ (.bl _) hf.2.2⟩
theorem od_notInL {K : PySem.W.Frag} : OpD K (rNotInD K) fNotInL := by
  intro H x y d e q Q hx hy hf k
  cases e <;> try exact hf.elim
  exact ⟨d, _, hx, hy, hf.1, hf.2.1, k _ _ (.bl _) hf.2.2⟩
def fInS : D2 := fun d e q => match d, e with
  | .str i, .str j => q (.bool (!(Builtin.Str.occurrences j i 0 j.length 1).isEmpty))
  | _, _ => False
def fNotInS : D2 := fun d e q => match d, e with
  | .str i, .str j => q (.bool (!(!(Builtin.Str.occurrences j i 0 j.length 1).isEmpty)))
  | _, _ => False
theorem od_inS {K : PySem.W.Frag} : OpD K (fun x y H Q => ∃ i j, x = .str i ∧ y = .str j ∧ Q (.bl (!(Builtin.Str.occurrences j i 0 j.length 1).isEmpty)) H) fInS := by
  intro H x y d e q Q hx hy hf k
  cases d <;> try exact hf.elim
  cases e <;> try exact hf.elim
  cases hx
  cases hy
  exact ⟨_, _, rfl, rfl, k _ _ (.bl _) hf⟩
theorem od_notinS {K : PySem.W.Frag} : OpD K (fun x y H Q => ∃ i j, x = .str i ∧ y = .str j ∧ Q (.bl (!(!(Builtin.Str.occurrences j i 0 j.length 1).isEmpty))) H) fNotInS := by
  intro H x y d e q Q hx hy hf k
  cases d <;> try exact hf.elim
  cases e <;> try exact hf.elim
  cases hx
  cases hy
  exact ⟨_, _, rfl, rfl, k _ _ (.bl _) hf⟩
/-! list.index -/

def dIndex (da db : DE PyData) : DE PyData := fun env q => dAsL da env fun ds => db env fun e => ∃ (j : Nat) (z : PyData), SeqAt.shaped (.list ds) = true ∧ SeqAt.shaped e = true ∧ ds[j]? = some z ∧ PyData.eqv z e = true ∧ (∀ (m : Nat) (z' : PyData), m < j → ds[m]? = some z' → PyData.eqv z' e = false) ∧ q (.int (j : Nat))
theorem px_index {X : Cx} {o a : Expr} {apos cpos : Pos} {da db : DE PyData} (hu : X.A.units + 65 < cLine) (ho : PX X (RU X.K) o da) (ha : PX X (RU X.K) a db) (hbase : attributeBase o "index" X.env (eval o X.env) = eval o X.env := by rfl)
    (hfew : ((backTo cpos (starEach [a] X.env)).all (fun x => !x.1) && (backToKw cpos (keywordEach [] X.env)).all (fun x => x.1.isSome)
      && decide (([a] : List Expr).length + ([] : List Keyword).length + (if ([] : List Keyword).isEmpty then 0 else 1) < 30)) = true := by rfl)
    (hline : (apos.endLine == cpos.line) = true := by rfl) (hs : starEach [a] X.env = (false, eval a X.env) :: starEach [] X.env := by rfl) (hplain : (backTo cpos (starEach [] X.env)).any (·.1) = false := by rfl) :
    PX X (RS X.K) (.Call (.Attribute o "index" apos) [a] [] cpos) (dIndex da db) :=
  let ⟨_, p1, s1⟩ := ho
  let ⟨_, p2, s2⟩ := ha
  ⟨_, pe_bm PySem.F.plainAttrs_list PySem.F.slot_list_index PySem.F.type_list_index (mt_indexD hu) p1 (pa_cons p2 pa_nil hs) hbase hfew hline hs hplain, fun σ H0 H env rr q Q hd k => s1 σ H0 H env rr _ _ hd fun H1 H' v d st hv hq => by
    cases d with
    | list ds =>
      have hv' : Dp X.K H' v (.list ds) := hv
      cases hv' with
      | lst a1 a2 =>
        refine ⟨.inl ⟨rfl, _, a1⟩, s2 σ H1 H' env (rr.step st) _ _ hq fun H2 H'' w e st2 hw hq2 => ?_⟩
        obtain ⟨j, z, h1, h2, h3, h4, h5, h6⟩ := hq2
        exact ⟨_, w, e, ds, j, z, rfl, rfl, Dp.lst (Same.seq st2.e a1) (a2.up st2.e), hw, h1, h2, h3, h4, h5, k H2 H'' _ _ (st.trans st2) (.int _) h6⟩
    | _ => exact hq.elim⟩
/-! ### data that a law's _law_same takes -/
def plain : Nat → PyData → Bool
  | _, .none => true
  | _, .int _ => true
  | _, .str s => PyData.strOk s
  | n + 1, .tuple ds => decide (ds.length ≤ 1000000) && ds.all (plain n)
  | _, _ => false
/-- the answer of _law_same at two equal data -/
def same0 (n : Nat) : Fn PyData := fun ds q => ∃ d, ds = [d, d] ∧ plain n d = true ∧ q (.bool true)
theorem x_same (n : Nat) : ∃ c : Fn PyData, ∀ ds q, c ds q ↔ same0 n ds q := ⟨_, fun _ _ => Iff.rfl⟩
noncomputable def c_same (n : Nat) : Fn PyData := Classical.choose (x_same n)
theorem v_same {n : Nat} {ds : List PyData} {q : PyData → Prop} (h : c_same n ds q) : same0 n ds q := (Classical.choose_spec (x_same n) ds q).mp h
theorem e_same {n : Nat} {d : PyData} {q : PyData → Prop} (hp : plain n d = true) (hq : q (.bool true)) : c_same n [d, d] q := (Classical.choose_spec (x_same n) [d, d] q).mpr ⟨d, rfl, hp, hq⟩
/-! ### the law's own call -/
theorem law_sp {K : PySem.W.Frag} {c : Fn PyData} (h : ∀ ns : List Int, ns.length ≤ 63 → c [.list (ns.map PyData.int)] (fun d => d = .bool true)) (H : Hp) (a : Addr) (ns : List Int) (hl : ns.length ≤ 63) (hS : SqL K H a (ns.map V.int)) :
    spD K RS c 1 [.ref a] H (fun v _ => v = .bl true) (fun _ _ _ => False) := by
  have hd : ∀ ms : List Int, DpAll K H (ms.map V.int) (ms.map PyData.int) := fun ms => by
    induction ms with
    | nil => exact .nil
    | cons m r ih => exact .cons (.int m) ih
  refine ⟨H, _, _, rfl, Same.refl _, .cons (.lst hS (hd ns)) .nil, h ns hl, fun H1 H' v a st hr hq => ?_⟩
  have hr' : Dp K H1 v a := hr
  rw [hq] at hr'
  cases hr'
  rfl
end DL
namespace DL
open PySem PySem.Spec PyProof.Rows L2
/-! ### texts; statements that are not come to -/
section
variable {W : WN} {X : Cx} {α : Type} {R : PySem.W.Frag → KR α} {e o a : Expr} {pos apos : Pos} {d : DS α}
def dNever : DS α := fun _ _ => False
theorem pz_never {st : Stmt} : PZ1 X R W st (dNever (α := α)) := ⟨fun _ _ _ => False, ⟨fun pins s σ H D I h => h.elim⟩, fun He H0e σ H0 H env w q D h c => h.elim⟩
/-- a try whose body raises nothing -/
theorem pz_thru {body : List Stmt} {h₀ : ExceptHandler} {hs : List ExceptHandler} (h : PZ X.nox R W body d) : PZ1 X R W (.Try body (h₀ :: hs) [] [] pos) d :=
  let ⟨_, p, s⟩ := h
  ⟨_, ps_try_thru0 p, s⟩
def dExpr (de : DE PyData) : DS α := fun q env => de env fun _ => q.nx env
theorem pz_expr {de : DE PyData} (h : PX X (RS X.K) e de) (hs : swapsWith e none pos.line X.env = pure false := by rfl) : PZ1 X R W (.Expr e pos) (dExpr (α := α) de) :=
  let ⟨_, p, s⟩ := h
  ⟨_, ps_expr p hs, fun He H0e σ H0 H env w q D h c => s σ H0 H env w.r _ _ h fun H1 H' v a st hr hq => c.nx σ H1 H' env (w.step st) st.e0 hq⟩
def dSplit (da db : DE PyData) : DE (List PyData) := fun env q => da env fun x => match x with
  | .str a => db env fun y => match y with
    | .str b => (b.length == 0) = false ∧ a.length + 2 ≤ sizeLine ∧ q ((Txt.split a b).map PyData.str)
    | _ => False
  | _ => False
theorem dpAll_strs {K : PySem.W.Frag} {H : Hp} : ∀ ys : List Str, DpAll K H (ys.map V.str) (ys.map PyData.str)
  | [] => .nil
  | y :: ys => .cons (.str y) (dpAll_strs ys)
theorem px_split {da db : DE PyData} (ho : PX X (RU X.K) o da) (he : PX X (RU X.K) e db) (hs : starEach [e] X.env = [(false, eval e X.env)] := by rfl) (hbase : attributeBase o "split" X.env (eval o X.env) = eval o X.env := by rfl) (hline : (apos.endLine == pos.line) = true := by rfl) :
    PX X (RO X.K) (.Call (.Attribute o "split" apos) [e] [] pos) (dSplit da db) :=
  let ⟨_, p1, s1⟩ := ho
  let ⟨_, p2, s2⟩ := he
  ⟨_, pe_split p1 p2 hs hbase hline, fun σ H0 H env rr q Q hd k => s1 σ H0 H env rr _ _ hd fun H1 H' v x st hv hq => by
    cases x with
    | str a =>
      have hv' : Dp X.K H' v (.str a) := hv
      cases hv'
      refine ⟨⟨_, rfl⟩, s2 σ H1 H' env (rr.step st) _ _ hq fun H2 H'' w y st2 hw hq2 => ?_⟩
      cases y with
      | str b =>
        have hw' : Dp X.K H'' w (.str b) := hw
        cases hw'
        exact ⟨_, _, rfl, rfl, hq2.1, hq2.2.1, fun l hl => k H2 _ _ _ ((st.trans st2).trans (Stp.stay st2.i (same_new hl))) ⟨l, _, rfl, (st.e.free (st2.e.free hl)), st2.i.free hl, upd_same, dpAll_strs _⟩ hq2.2.2⟩
      | _ => exact hq2.elim
    | _ => exact hq.elim⟩
theorem px_globS {x : Str} {p : Pos} {z : Str} (hg : Gl X x) (hm : ∃ t, X.mg x = some (.str z t)) (hdb : (x == ("__debug__" : Str)) = false := by decide) : PX X (RS X.K) (.Name x p) (dC (.str z)) :=
  let ⟨_, h⟩ := hm
  px_c (pe_glob (v := .str z) hg h ⟨_, rfl⟩ hdb) fun _ => .str _
def dFind (da db : DE PyData) : DE PyData := fun env q => da env fun x => match x with
  | .str a => db env fun y => match y with
    | .str b => q (.int (Txt.find a b))
    | _ => False
  | _ => False
theorem px_find {da db : DE PyData} (ho : PX X (RU X.K) o da) (he : PX X (RU X.K) e db) (hs : starEach [e] X.env = [(false, eval e X.env)] := by rfl) (hbase : attributeBase o "find" X.env (eval o X.env) = eval o X.env := by rfl) (hline : (apos.endLine == pos.line) = true := by rfl) :
    PX X (RS X.K) (.Call (.Attribute o "find" apos) [e] [] pos) (dFind da db) :=
  let ⟨_, p1, s1⟩ := ho
  let ⟨_, p2, s2⟩ := he
  ⟨_, pe_m1 F.slot_str_find F.type_str_find mt_find p1 p2 hs hbase hline, fun σ H0 H env rr q Q hd k => s1 σ H0 H env rr _ _ hd fun H1 H' v x st hv hq => by
    cases x with
    | str a =>
      have hv' : Dp X.K H' v (.str a) := hv
      cases hv'
      refine ⟨⟨_, rfl⟩, s2 σ H1 H' env (rr.step st) _ _ hq fun H2 H'' w y st2 hw hq2 => ?_⟩
      cases y with
      | str b =>
        have hw' : Dp X.K H'' w (.str b) := hw
        cases hw'
        exact ⟨_, _, rfl, rfl, k H2 H'' _ _ (st.trans st2) (.int _) hq2⟩
      | _ => exact hq2.elim
    | _ => exact hq.elim⟩
end
end DL
namespace DL
open PySem PySem.Spec PyProof.Rows L2
/-! ### a def that may raise -/
abbrev FnX (α : Type) := List PyData → (α → Prop) → (Str → Prop) → Prop
def fncX {α : Type} (m : Nat) (d : DS α) : FnX α := fun ds q x => d { nx := fun _ => False, rt := q, ex := x } (en0 m ds)
def spX {α : Type} (K : PySem.W.Frag) (mg : Str → Option Value) (R : PySem.W.Frag → KR α) (c : FnX α) (n : Nat) : Sp := fun vs H Q E => ∃ H0 ds q x, vs.length = n ∧ Same H0 H ∧ DpAll K H0 vs ds ∧ c ds q x ∧
  (∀ H1 H' v a, Stp H0 H H1 H' → R K H H1 H' v a → q a → Q v H') ∧ ∀ y C H1 H', Stp H0 H H1 H' → mg y = some (.ref C) → x y → E (.ref C) none H'
/-- what the text says of a class of its own that is raised -/
structure XCls (K : PySem.W.Frag) (mg : Str → Option Value) (x : Str) (C : Addr) : Prop where
  g : mg x = some (.ref C)
  q : PySem.W.excIn K C [.type "ValueError", .type "Exception", .type "BaseException", .type "object"] "ValueError.__new__" = true
  k : PySem.W.keepIn K (.ref C) = true
  b : PySem.W.subIn K (.ref C) (.type "BaseException") = some true
  t : PySem.W.typeIn K (.ref C) = some (.type "type")
section
variable {W : WN} {X : Cx} {α : Type} {R : PySem.W.Frag → KR α} {d : DS α}
def dRaise (x : Str) : DS α := fun q _ => q.ex x
theorem pz_raise {x m : Str} {C : Addr} {Wx : WX} {j : Nat} {p p2 pos pos' : Pos} (hc : X.calm = true) (tk : Takes X Wx) (T : XCls X.K X.mg x C) (hg : Gl X x) (hW : ∀ σ H, W x σ H → Wx (.ref C) none σ H) (hdb : (x == ("__debug__" : Str)) = false := by decide) :
    PZ1 X R W (.Raise (some (.Call (.Name x p) [.Constant (.str m) j p2] [] pos)) none pos') (dRaise (α := α) x) :=
  ⟨_, ps_raise hc tk (pmk_own PySem.F.excBase_ValueError T.q T.g T.k (raises_own T.b T.t) hg hdb), fun He H0e σ H0 H env w q D h c => hW σ H (c.ex x σ H0 H env w (Same.refl _) h)⟩
end
theorem fn_okX {P : Program} {w : World} {K : PySem.W.Frag} {mg : Str → Option Value} {base : Heap} {x qual : Str} {st : Stmt} {f : Addr} {fd : FuncData} {N ps : List Str} {k n m : Nat} {α : Type} {R : PySem.W.Frag → KR α} {d : DS α}
    (F : Fun K x qual st f fd) (S : FnScope N ps (defScope st)) (hn : ps.length = n) (hm : N.length - n = m)
    (body : ∀ (cdv : Value) (A : Around) (outer : List Env) (s : Shared) (H : Hp) (E : XK), Room k (A.deeper (envOfC qual (defScope st) s.heap.objs.size f cdv)) → PZ (cxOf (L2.CX P w) P w K mg base N qual (defScope st) f cdv A outer s H E) R (fun x _ H => ∀ C, mg x = some (.ref C) → E (.ref C) none H) (defBody st) d) :
    FnOk P w K mg base (L2.CX P w) (k + 1) f fd ps (spX K mg R (fncX m d) n) := by
  refine F.okX S (fun vs H Q E h => ?_) (fun cdv A outer s H vs Q E hr h => ?_)
  · obtain ⟨H0, ds, q, x, h1, _⟩ := h
    rw [h1, hn]
  · obtain ⟨H0, ds, q, x, h1, h2, h3, h4, h5, h6⟩ := h
    obtain ⟨t, p, sz⟩ := body cdv A outer s H E hr
    refine ⟨t, p, ?_⟩
    have rr : Rel K (L2.start N vs) H0 H (en0 m ds) := rel_start h2 h3 (by rw [h1]; exact hm)
    exact sz H H0 (L2.start N vs) H0 H (en0 m ds) ⟨rr, Stp.rfl h2, fun i xs a e => (en0_val e).elim⟩ { nx := fun _ => False, rt := q, ex := x } _ h4 ⟨fun _ _ _ _ _ _ z => z.elim, fun _ _ _ _ _ _ z => z.elim, fun _ _ _ _ _ _ z => z.elim, fun H1 H' v a st hr hq => h5 H1 H' v a st hr hq, fun y σ H1 H' env w _ hx C hC => h6 y C H1 H' w.s hC hx⟩
end DL
namespace DL
open PySem PySem.Spec PyProof.Rows L2
/-! ### told = False; try: f(x) except StairError as e: told = isinstance(e, G) and isinstance(e, ValueError) and not isinstance(e, B); return told -/
def refused0 (c : FnX PyData) (good : Str) : Fn PyData := fun ds q => ∃ d, ds = [d] ∧ c [d] (fun _ => q (.bool false)) (fun y => y = good ∧ q (.bool true))
structure RefT (K : PySem.W.Frag) (mg : Str → Option Value) (good bad : Str) (CS D B0 : Addr) : Prop where
  gS : mg "StairError" = some (.ref CS)
  gG : mg good = some (.ref D)
  gB : mg bad = some (.ref B0)
  e : PySem.W.exmOne K (.ref D) (.ref CS) = some true
  C : ExcC K D
  k1 : PySem.W.kitOne K (.ref D) (.ref D) = some true
  k2 : PySem.W.kitOne K (.ref D) (.type "ValueError") = some true
  k3 : PySem.W.kitOne K (.ref D) (.ref B0) = some false
  vE : mg "ValueError" = none
  vI : mg "isinstance" = none
def tIs (K : PySem.W.Frag) (D a : Addr) (c : V) : TE := tCB (rIsE K D a) (tCons (tVar 2) (tCons (tC c) tNil))
def tSuite (K : PySem.W.Frag) (D a B0 : Addr) : TE := tAndV (tIs K D a (.ref D)) (tAndV (tIs K D a (.ty "ValueError")) (tNotV (tIs K D a (.ref B0))))
def ts_ref (K : PySem.W.Frag) (D B0 : Addr) : Addr → Value → Option Addr → TS := fun a cls d Dn σ H => cls = .ref D ∧ d = none ∧ tAsg (tSuite K D a B0) (gName 1) Dn σ H
def tb_ref (K : PySem.W.Frag) (mg : Str → Option Value) (c : FnX PyData) : WX → TS := fun W => tDrop (tCallS (spX K mg RS c 1) (WE W) (tCons (tVar 0) tNil))
def t_ref (K : PySem.W.Frag) (mg : Str → Option Value) (c : FnX PyData) (CS D B0 : Addr) : TS := tSeq (tAsg (tC (.bl false)) (gName 1)) (tSeq (fun Dn σ H => tb_ref K mg c (wAs K (.ref CS) 2 (ts_ref K D B0) (fun _ _ _ _ => False) Dn) Dn σ H) (tRet (tVar 1)))
theorem pure_ref {K : PySem.W.Frag} {mg : Str → Option Value} {good bad : Str} {CS D B0 : Addr} {c : FnX PyData} {N : List Str} (hN : N.length = 3) (T : RefT K mg good bad CS D B0) {vs : List V} {H : Hp} {Q : VK} {E : XK} (h : spD K RS (refused0 c good) 1 vs H Q E) :
    t_ref K mg c CS D B0 { nx := fun _ H' => Q .non H', rt := Q } (L2.start N vs) H := by
  obtain ⟨H0, ds, q, h1, h2, h3, ⟨d, rfl, hc⟩, h5⟩ := h
  obtain ⟨v, rfl⟩ : ∃ v, vs = [v] := by
    match vs, h1 with
    | [v], _ => exact ⟨v, rfl⟩
  obtain ⟨x0, x1, x2, rfl⟩ : ∃ a b c, N = [a, b, c] := by
    match N, hN with
    | [a, b, c], _ => exact ⟨a, b, c, rfl⟩
  refine ⟨v, rfl, ?_⟩
  refine ⟨H0, [d], fun _ => q (.bool false), fun y => y = good ∧ q (.bool true), rfl, h2, h3, hc, fun H1 H' v' a st hr hq => ?_, fun y C H1 H' st hm ⟨hy, hq⟩ => ?_⟩
  · exact ⟨_, rfl, h5 H1 H' (.bl false) (.bool false) st (.bl false) hq⟩
  · subst hy
    have e : C = D := by
      have := hm.symm.trans T.gG
      cases this
      rfl
    subst e
    refine ⟨true, T.e, fun _ a ha => ⟨rfl, rfl, ?_⟩, fun z => nomatch z⟩
    refine ⟨_, rfl, .ref C, .ref C, true, rfl, fun u r => r, T.k1, true, rfl, ?_⟩
    rw [if_pos rfl]
    refine ⟨_, rfl, .ty "ValueError", .type "ValueError", true, rfl, fun u r => r, T.k2, true, rfl, ?_⟩
    rw [if_pos rfl]
    refine ⟨_, rfl, .ref B0, .ref B0, false, rfl, fun u r => r, T.k3, false, rfl, ?_⟩
    exact ⟨_, rfl, h5 H1 H' (.bl true) (.bool true) st (.bl true) hq⟩
/-- a suite that asks of the exception that it holds -/
theorem pss_when {X : Cx} {b : List Stmt} {t : TS} {P P' : Prop} (h : P → P' → PSs X b t) : PSs X b (fun D σ H => P ∧ P' ∧ t D σ H) :=
  ⟨fun pins s σ H D I ⟨p, p', z⟩ => (h p p').run pins s σ H D I z⟩
end DL
namespace DL
open PySem PySem.Spec PyProof.Rows L2
/-! ### min of a tuple of whole numbers -/
def rMinT (K : PySem.W.Frag) : List V → Hp → VK → Prop := fun vs H Q => ∃ (a : Addr) (x : Int) (ns : List Int), vs = [.ref a] ∧ SqT K H a ((x :: ns).map V.int) ∧ Q (.int (PySem.W.minOf x ns)) H
theorem readsInts {h : Heap} : ∀ {ns : List Int} {its : List Value}, L2.Vals (ns.map V.int) its → PySem.ReadsAll h its (ns.map PySem.W.Datum.toD) []
  | [], _, r => by cases r; exact .nil
  | n :: ns, _, r => by
    cases r with
    | cons h1 h2 =>
      obtain ⟨t, rfl⟩ := h1
      exact .cons (as := []) (bs := []) (.int _ _) (readsInts h2)
theorem cr_minT {X : Cx} (hc : X.calm = true) (hu : X.A.units + 65 < cLine) : CallR X (.builtin "min") (rMinT X.K) := by
  intro pins s σ H vs us Q I r h
  obtain ⟨a, x, ns, rfl, hs, q⟩ := h
  obtain ⟨its, rv, hl, _⟩ := I.tuple hs
  rw [Vals.ref1 r]
  refine PySem.W.min_tuple_datum (α := Int) (I.ok.hd hc) (show s.heap.IsTuple a its.toArray from hl) ⟨[], readsInts rv⟩ (by show X.A.units + 1 + 0 < cLine; omega) fun i v h' tk hi hv hk => ?_
  obtain ⟨as, hr⟩ := hv
  cases hr
  exact ⟨.int _, H, I.kept hk, ⟨_, rfl⟩, q⟩
def fMin (ds : List PyData) (q : PyData → Prop) : Prop := ∃ (x : Int) (ns : List Int), ds = [.tuple ((x :: ns).map PyData.int)] ∧ q (.int (PySem.W.minOf x ns))
theorem oc_minT {K : PySem.W.Frag} : OpC K (rMinT K) fMin := by
  intro H xs ds q Q h hf k
  obtain ⟨x, ns, rfl, hq⟩ := hf
  cases h with
  | cons h1 h2 =>
    cases h2
    cases h1 with
    | tup a b =>
      have e := dpInts b
      subst e
      exact ⟨_, x, ns, rfl, a, k _ _ (.int _) hq⟩
/-- the least of three below nought -/
theorem min3 (a b c : Int) : (PySem.W.minOf a [b, c] < 0) ↔ (a < 0 ∨ b < 0 ∨ c < 0) := by
  have lt : ∀ x y : Int, PySem.W.DatumOrd.lt x y = decide (x < y) := fun x y => rfl
  unfold PySem.W.minOf
  simp only [List.foldl_cons, List.foldl_nil, lt, decide_eq_true_eq]
  split <;> split <;> omega
theorem bootVE : bootBuiltins "ValueError" = some (.type "ValueError") := by decide +kernel
theorem kit_self {K : PySem.W.Frag} {t : Value} : PySem.W.kitOne K t t = some true := if_pos (beq_self_eq_true t)
theorem kit_type {K : PySem.W.Frag} {C : Addr} {T : String} {b : Bool} (hm : PySem.W.kitMeta T = true) (h : PySem.W.subIn K (.ref C) (.type T) = some b) : PySem.W.kitOne K (.ref C) (.type T) = some b := by
  have hne : ¬ (Value.ref C == Value.type T) = true := fun z => by cases beq_iff_eq.mp z
  unfold PySem.W.kitOne
  rw [if_neg hne]
  show (if PySem.W.kitMeta T = true then PySem.W.subIn K (.ref C) (.type T) else none) = some b
  rw [if_pos hm]
  exact h
theorem kit_ref {K : PySem.W.Frag} {C B : Addr} (h : PySem.W.subIn K (.ref C) (.ref B) = some false) (hs : PySem.W.subIn K (.ref C) (.ref C) = some true) (hc : PySem.W.isClsIn K B = true) (ht : PySem.W.typeIn K (.ref B) = some (.type "type")) : PySem.W.kitOne K (.ref C) (.ref B) = some false := by
  have hne : ¬ (Value.ref C == Value.ref B) = true := fun z => by
    have e := Value.ref.inj (beq_iff_eq.mp z)
    subst e
    rw [hs] at h
    cases h
  have e2 : ((PySem.W.clsIn K B).isSome && PySem.W.typeIn K (.ref B) == some (.type "type")) = true := by
    have hc' : (PySem.W.clsIn K B).isSome = true := hc
    rw [hc', ht] <;> rfl
  unfold PySem.W.kitOne
  rw [if_neg hne]
  show (if ((PySem.W.clsIn K B).isSome && PySem.W.typeIn K (.ref B) == some (.type "type")) = true then PySem.W.subIn K (.ref C) (.ref B) else none) = some false
  rw [if_pos e2]
  exact h
theorem metaVE : PySem.W.kitMeta "ValueError" = true := by decide +kernel
end DL
namespace DL
open PySem PySem.Spec PyProof.Rows L2
/-! ### an exception that leaves a comprehension's block -/
section
variable {X : Cx} {pins : List (Addr × Obj)} {σ : L2.St} {W : WX}
theorem note_env (v : Value) {c e : Env} (h : c.frame = e.frame) : noteFrame v c = noteFrame v e := by simp only [noteFrame, PySem.frameOf, h]
/-- held by our own frame -/
theorem xe_held {H H' : Hp} {s s' : Shared} {B : Heap} {a : Addr} {cls : Value} {d : Option Addr} (J : Inv X pins σ H s) (hh : HandSPX.HeldZ B X.stack a (Zc cls d) X.env.locals s'.heap) (ho : HOk X.prog X.w H' B) (u : UB (frs X.stack) H H' s.heap B s'.heap)
    (na : H' a = none) (eo : s'.os = s.os) (eg : AllBare s'.gens) (hw : W cls d σ H') : XE X W (.ref a) s' := by
  obtain ⟨F, on, off⟩ := restrict s'.heap fun z => (B.get? z).isSome || decide (z ∈ frs X.stack)
  have low : ∀ z ob, B.get? z = some ob → F.get? z = some ob := fun z ob e => (on z (by rw [e]; rfl)).trans (hh.1 z ob e)
  have mid : ∀ z, z ∈ frs X.stack → F.get? z = s'.heap.get? z := fun z hz => on z (by rw [decide_eq_true hz, Bool.or_true])
  have back : ∀ z ob, F.get? z = some ob → s'.heap.get? z = some ob := fun z ob e => by
    cases hp : ((B.get? z).isSome || decide (z ∈ frs X.stack)) with
    | true => exact (on z hp).symm.trans e
    | false => exact absurd ((off z hp).symm.trans e) (by simp)
  have deep : ∀ z ob, F.get? z = some ob → z ∉ frs X.stack → B.get? z = some ob := fun z ob e nz => by
    cases hq : B.get? z with
    | none => exact absurd ((off z (by rw [hq, decide_eq_false nz]; rfl)).symm.trans e) (by simp)
    | some ob' => exact (hh.1 z ob' hq).symm.trans (back z ob e)
  have J2 : Inv X pins σ H' { s' with heap := F } := by
    refine J.call' (ch := []) eo ⟨fun z ob e n hz _ => low z ob (u.keep z ob e n hz), fun z ob e n hz _ => ?_, fun z ob e n _ => u.free z ob e n, fun z ob e _ => ?_, u.tups, u.frzs, u.tbls⟩ (ho.kept low) eg (fun _ q => nomatch q)
    · rw [mid z hz]
      exact u.slot z ob e hz
    · by_cases hz : z ∈ frs X.stack
      · obtain ⟨sl, q⟩ := u.slot z ob e hz
        exact ⟨_, (mid z hz).trans q⟩
      · obtain ⟨ob', q⟩ := u.there z ob e hz
        exact ⟨ob', low z ob' q⟩
  exact ⟨a, B, _, pins, σ, H', cls, d, rfl, J2, deep, Heap.UpToSlots.of_keeps back, .inr (.inr hh), na, rfl, eg, hw⟩
/-- what a call in the block let out: noted by the frame, the block's names cleared, passed on -/
theorem comp_fails {H3 Hb : Hp} {s3 sb s' : Shared} {cenv : Env} {fp : List Addr} {scope : Scope} {pb : List (Addr × Obj)} {σb : L2.St} {E1 : XK} {v : Value} (tk : Takes X W) (hs : X.stack = X.env :: X.outer) (hf : X.env.frame = some X.env.locals)
    (hcf : cenv.frame = X.env.frame) (I3 : Inv X pins σ H3 s3) (f3 : ∀ b ∈ fp, FpOk X pins H3 b) (hC : s3.heap.objs.size ≤ cenv.locals) (hW : ∀ cls d H', E1 cls d H' → W cls d σ H')
    (Ib : Inv (X.blk s3 H3 scope cenv fp) pb σb Hb sb) (c : L2.CX X.prog X.w X.stack Hb sb E1 v s') : notedBy (model X.prog X.w) X.A cenv (CompFails (model X.prog X.w) X.A X.xe cenv) v s' := by
  obtain ⟨a, B, H', cls, d, rfl, fl, hok, ub, na, os, ag, hE⟩ := c
  have ne3 : ∀ z ob, s3.heap.get? z = some ob → z ≠ cenv.locals := fun z ob e q => absurd (Nat.lt_of_lt_of_le (Heap.lt_size e) hC) (by rw [q]; exact Nat.lt_irrefl _)
  have nC : cenv.locals ∉ frs X.stack := fun z => by
    obtain ⟨_, ob, e, _⟩ := I3.stack.mem z
    exact ne3 _ ob e rfl
  have fC : Hb cenv.locals = none := Ib.free
  obtain ⟨mC, ⟨oC, es, ep, eC, dC, rC⟩, _⟩ := Ib.loc
  -- the state in the block, without the block's names
  obtain ⟨G, g1, g2⟩ := restrict sb.heap fun z => decide (z ≠ cenv.locals)
  have gk : ∀ z, z ≠ cenv.locals → G.get? z = sb.heap.get? z := fun z h => g1 z (decide_eq_true h)
  have gb : ∀ z ob, G.get? z = some ob → z ≠ cenv.locals ∧ sb.heap.get? z = some ob := fun z ob e => by
    by_cases h : z = cenv.locals
    · exact absurd ((g2 z (by simp [h])).symm.trans e) (by simp)
    · exact ⟨h, (gk z h).symm.trans e⟩
  have ub0 : Un (frs X.stack) fp H3 Hb s3.heap sb.heap := Ib.base
  have I0 : Inv X pins σ Hb { sb with heap := G } := by
    refine I3.call' (ch := fp) Ib.os ⟨fun z ob e n hz hx => (gk z (ne3 z ob e)).trans (ub0.keep z ob e n hz hx), fun z ob e n hz hx => ?_, ub0.free, fun z ob e hx => ?_, ub0.tups, ub0.frzs, ub0.tbls⟩ (fun z u q => ?_) Ib.bare fun b hb => ?_
    · rw [gk z (ne3 z ob e)]
      exact ub0.slot z ob e n hz hx
    · rw [gk z (ne3 z ob e)]
      exact ub0.there z ob e hx
    · refine (Ib.hok z u q).stay (fun y w hy r => (gk y fun ey => ?_).trans r) (fun _ r => r) (fun _ _ r => r)
      rcases hy with rfl | hy
      · rw [ey, fC] at q; cases q
      · rw [ey, fC] at hy; cases hy
    · obtain ⟨_, h2, _, h4, h5, h6⟩ := f3 b hb
      exact ⟨h4, h2, h5, h6⟩
  -- the ground, without them
  obtain ⟨B', b1, b2⟩ := restrict B fun z => decide (z ≠ cenv.locals)
  have bk : ∀ z, z ≠ cenv.locals → B'.get? z = B.get? z := fun z h => b1 z (decide_eq_true h)
  have bb : ∀ z ob, B'.get? z = some ob → z ≠ cenv.locals ∧ B.get? z = some ob := fun z ob e => by
    by_cases h : z = cenv.locals
    · exact absurd ((b2 z (by simp [h])).symm.trans e) (by simp)
    · exact ⟨h, (bk z h).symm.trans e⟩
  have bn : ∀ z, B.get? z = none → B'.get? z = none := fun z e => by
    cases q : B'.get? z with
    | none => rfl
    | some ob => exact absurd ((bb z ob q).2.symm.trans e) (by simp)
  have sC : s'.heap.get? cenv.locals = some oC := fl.1 _ oC (ub.keep _ oC eC fC nC)
  have fC' : H' cenv.locals = none := ub.free _ oC eC fC
  have nfC : ∀ ws, oC.data ≠ .fields ws := fun ws z => by
    rw [show oC.data = .dict es ep from dC] at z
    cases z
  have hokB : HOk X.prog X.w H' B' := fun z u q => by
    refine (hok z u q).stay (fun y w hy r => (bk y fun ey => ?_).trans r) (fun _ r => r) (fun _ _ r => r)
    rcases hy with rfl | hy
    · rw [ey, fC'] at q; cases q
    · rw [ey, fC'] at hy; cases hy
  show wpAny _ _ (noteFrame (.ref a) cenv) _ _ s'
  rw [note_env _ hcf]
  refine HandSPX.looks_onZ Zc.steady (I3.ok.frames.trans (by rw [hs])) hf (by rw [← hs]; exact fl) fun h1 held up1 => ?_
  obtain ⟨k1, k2, k3, oe, vs, T, oT, ts, he, hz, hde, hv1, hnT, hTe, hT, hdT, ht3⟩ := held
  obtain ⟨sl1, e1C⟩ := up1 _ oC sC nfC
  refine ⟨mC, ⟨_, es, ep, e1C, dC, rC⟩, fun h2 m2 hn2 sb2 => ?_⟩
  have neR : ∀ z ob ws, h1.get? z = some ob → ob.data = .fields ws → z ≠ cenv.locals := fun z ob ws e q r => by
    rw [r, e1C] at e
    cases e
    exact nfC ws q
  have he2 := (sb2.2 a (neR a oe vs he hde)).trans he
  have hT2 := (sb2.2 T (neR T oT ts hT hdT)).trans hT
  unfold PySem.passOn
  refine wpAny_bind (wpAny_field he2 hde hv1 ?_)
  rw [if_neg (fun z => by cases beq_iff_eq.mp z), hcf, hf]
  refine wpAny_bind (HandSPX.setFlight_anyZ (base := B') (l := X.env :: X.outer) (Z := Zc cls d) (fl := rawInt X.env.locals) (fun z ob e => (sb2.2 z (bb z ob e).1).trans (k1 z ob (bb z ob e).2))
    (funFrames_none (Heap.FunFrames.sameBut sb2 hn2 k3) fun z hz => bn z (k3.mem hz).1) ⟨oe, vs, T, oT, ts, he2, hz, hde, hv1, bn T hnT, hTe, hT2, hdT, ht3⟩ fun h3 q1 q2 q3 q4 => ?_)
  refine wpAny_throw (tk _ _ (xe_held I0 (H' := H') (B := B') ⟨q1, bn a k2, by rw [hs]; exact q2, q3⟩ hokB ⟨fun z ob e n hz => ?_, fun z ob e hz => ?_, fun z ob e n => ub.free z ob (gb z ob e).2 n, fun z ob e hz => ?_, ub.tups, ub.frzs, ub.tbls⟩ na os ag (hW _ _ _ hE)))
  · exact (bk z (gb z ob e).1).trans (ub.keep z ob (gb z ob e).2 n hz)
  · obtain ⟨sl, r1⟩ := ub.slot z ob (gb z ob e).2 hz
    have fb : sb.heap.FunFrames X.base X.stack := Ib.funs
    obtain ⟨_, ob', e', nf⟩ := fb.mem hz
    have eo : ob = ob' := Option.some.inj ((gb z ob e).2.symm.trans e')
    subst eo
    obtain ⟨sl2, r2⟩ := up1 z _ r1 nf
    obtain ⟨sl3, r3⟩ := q4 z _ ((sb2.2 z (gb z ob e).1).trans r2) nf
    exact ⟨sl3, r3⟩
  · obtain ⟨ob', r⟩ := ub.there z ob (gb z ob e).2 hz
    exact ⟨ob', (bk z (gb z ob e).1).trans r⟩
end
end DL
namespace DL
open PySem PySem.Spec PyProof.Rows L2
/-! ### [elt for target in iter], the element may raise -/
section
variable {X : Cx} {W : WX}
theorem pe_lcX {elt tg iter : Expr} {scope : Scope} {own : List (Str × Nat)} {pos : Pos} {wi : TI} {g : TG} {te : XK → TE} (tk : Takes X W) (hst : X.stack = X.env :: X.outer) (hfm : X.env.frame = some X.env.locals) (hc : X.calm = true) (hN : X.N.Nodup)
    (hi : PI X tg iter wi) (ok : BlkOk X.N X.env.scope scope own) (hg : ∀ (s : Shared) (H : Hp) (C : Addr) (cl : List (Str × Addr)) (fp : List Addr), PG (X.blk s H scope (compEnvC scope cl C X.env) fp) tg g)
    (he : ∀ (E1 : XK) (E2 : Value → Shared → Prop) (s : Shared) (H : Hp) (C : Addr) (cl : List (Str × Addr)) (fp : List Addr), (∀ σ', PassesAt (L2.CX X.prog X.w) ((X.blk s H scope (compEnvC scope cl C X.env) fp).wish E2) σ' E1) → PE ((X.blk s H scope (compEnvC scope cl C X.env) fp).wish E2) elt (te E1))
    (hs : ∀ x, foldedSetIterable iter X.env x = pure x := by intro _; rfl) : PE X (.ListComp elt [⟨tg, iter, [], 0⟩] scope pos) (fun σ => tLc wi g tYes (te (WE W σ)) (own.map (·.2)) σ) := by
  refine ⟨fun pins s σ H Q I h => ?_⟩
  have fr : ∀ y ∈ scope.names, y.2 = .free → ∃ c, X.env.cells.lookup y.1 = some c := fun y hy e => I.ok.has _ ((ok.free y hy e).imp id id)
  rw [eval_ListComp]
  refine comprehension_at (use := none) rfl hs (closure_ok fr) ok.kind (fun y hy e => (ok.uniq y hy).trans (congrArg some e)) (thn (hi.run pins s σ H _ I h) fun vx t1 q1 => thn q1 fun vi t2 q2 => ?_)
  obtain ⟨it, fp, tn, J, H2, rfl, I2, T, st2, f2, q⟩ := q2
  refine wpAny_newObj_type (newEnv_comp ?_) (Nat.zero_le _)
  obtain ⟨D, hD⟩ : ∃ D, D = t2.heap.objs.size := ⟨_, rfl⟩
  rw [← hD]
  obtain ⟨W0, ⟨m0, w0⟩, turn⟩ := q D (I2.hok.fresh (Nat.le_of_eq hD.symm))
  obtain ⟨t3, h3⟩ : ∃ t3 : Shared, t3 = { t2 with heap := t2.heap.push { cls := .type "list", data := .seq ([] : List Value).toArray } } := ⟨_, rfl⟩
  have hh3 : t3.heap = t2.heap.push { cls := .type "list", data := .seq ([] : List Value).toArray } := by rw [h3]
  have kp3 : ∀ b o, t2.heap.get? b = some o → t3.heap.get? b = some o := fun b o e => by
    rw [hh3]
    exact Heap.get?_push_of_some _ e
  obtain ⟨H3, eH3⟩ : ∃ H3, H3 = upd H2 D (.lst []) := ⟨_, rfl⟩
  have I3 : Inv X pins σ H3 t3 := by
    rw [eH3, h3]
    exact I2.laid (t' := t2.toks) (fun b o e => Heap.get?_push_of_some _ e) (Nat.le_of_eq hD.symm) ⟨Nat.zero_le _, [], 0, .nil, by rw [hD]; exact Heap.get?_push_size _ rfl⟩
  have old : ∀ b ∈ fp, b < t2.heap.objs.size := fun b hb => by
    obtain ⟨o, e, _⟩ := T.obj _ _ st2 b hb
    exact Heap.lt_size e
  have f3 : ∀ b ∈ fp, FpOk X pins H3 b := fun b hb => by
    refine ⟨?_, (f2 b hb).2⟩
    rw [eH3, upd_ne (by rw [hD]; exact Nat.ne_of_lt (old b hb))]
    exact (f2 b hb).1
  have f3' : ∀ b ∈ fp, FpOk X pins H3 b ∧ b < t3.heap.objs.size := fun b hb => ⟨f3 b hb, by rw [hh3, Heap.size_push]; exact Nat.lt_succ_of_lt (old b hb)⟩
  have st3 : tn 0 t3.heap := T.keep _ _ _ st2 fun b _ o e => kp3 b o e
  have I4 := block_start I3 ok hN f3'
  rw [← h3]
  obtain ⟨cl, hcl⟩ : ∃ cl, cl = cellsFrom (t3.heap.objs.size + 1) scope.names (cloFrom X.env.cells scope.names []) := ⟨_, rfl⟩
  rw [← hcl] at I4
  obtain ⟨cv, hcv⟩ : ∃ cv, cv = compEnvC scope cl t3.heap.objs.size X.env := ⟨_, rfl⟩
  obtain ⟨t4, h4⟩ : ∃ t4 : Shared, t4 = { t3 with heap := pushCells (t3.heap.push { cls := .type "dict", data := .dict #[] }) scope.names } := ⟨_, rfl⟩
  have st4 : tn 0 t4.heap := T.keep _ _ _ st3 fun b _ o e => by
    rw [h4]
    exact pushCells_keeps _ _ _ _ (Heap.get?_push_of_some _ e)
  rw [← h4, ← hcv] at I4
  have cC : cv.locals = t3.heap.objs.size := by rw [hcv]; rfl
  have cF : cv.frame = X.env.frame := by rw [hcv]; rfl
  obtain ⟨E2, hE2⟩ : ∃ E2, E2 = notedBy (model X.prog X.w) X.A cv (CompFails (model X.prog X.w) X.A X.xe cv) := ⟨_, rfl⟩
  have pg : PG (X.blk t3 H3 scope cv fp) tg g := by rw [hcv]; exact hg _ _ _ _ _
  have pe : PE ((X.blk t3 H3 scope cv fp).wish E2) elt (te (WE W σ)) := by
    have pa : ∀ σ', PassesAt (L2.CX X.prog X.w) ((X.blk t3 H3 scope cv fp).wish E2) σ' (WE W σ) := fun σ' pb Hb sb v s' Ib c => by
      show E2 v s'
      rw [hE2]
      exact comp_fails tk hst hfm cF I3 f3 (Nat.le_of_eq cC.symm) (fun _ _ _ z => z) Ib.unwish c
    rw [hcv] at pa ⊢
    exact he _ _ _ _ _ _ _ pa
  show codeAny _ _ (.compStart (.ListComp elt [⟨tg, iter, [], 0⟩] scope pos) 0 (.ref it) (.ref D) (compEnvC scope (cellsFrom (t3.heap.objs.size + 1) scope.names (cloFrom X.env.cells scope.names [])) t3.heap.objs.size X.env))
    (compEnds (model X.prog X.w) X.A X.xe none (EP X pins σ Q) (.ref D) (compEnvC scope (cellsFrom (t3.heap.objs.size + 1) scope.names (cloFrom X.env.cells scope.names [])) t3.heap.objs.size X.env)) { t3 with heap := pushCells (t3.heap.push { cls := .type "dict", data := .dict #[] }) scope.names }
  rw [← h4, ← hcl, ← hcv]
  have fpB : ∀ {σ' : L2.St} {H' : Hp} {s' : Shared}, Inv (X.blk t3 H3 scope cv fp) [] σ' H' s' → (∀ b ∈ fp, H' b = none) → ∀ b ∈ fp, FpOk (X.blk t3 H3 scope cv fp) [] H' b := fun J hn b hb =>
    ⟨hn b hb, (J.ok.exf b hb).1, J.ok.exfs b hb, .inl hb, (J.ok.exf b hb).2, fun p hp => nomatch (show p ∈ ([] : List (Addr × Obj)) from hp)⟩
  have loop : codeAny (model X.prog X.w) X.A (.compLoop (.ListComp elt [⟨tg, iter, [], 0⟩] scope pos) 0 (.ref it) (.ref D) cv) (compEnds (model X.prog X.w) X.A X.xe none (EP X pins σ Q) (.ref D) cv) t4 := by
    refine compLoop_any (fun n u => ∃ i H', Inv (X.blk t3 H3 scope cv fp) [] (wipe σ (own.map (·.2))) H' u ∧ tn i u.heap ∧ (∀ b ∈ fp, H' b = none) ∧ W0 i n H') ?_ m0 ⟨0, H3, I4, st4, fun b hb => (f3 b hb).1, by rw [eH3]; exact w0⟩
    rintro n u5 ⟨i, H5, I5, st5, n5, w5⟩
    rcases turn i n H5 w5 with ⟨stop, hq⟩ | ⟨go, Nx, hNx, step⟩
    · refine thnF (T.done (X.blk t3 H3 scope cv fp) rfl rfl rfl hc i [] u5 _ H5 (fun _ _ => False) I5 (fpB I5 n5) st5 stop) fun r u6 ⟨hr, I6⟩ => ?_
      subst hr
      have I7 : Inv X pins σ H5 u6 := I3.call' (ch := fp) I6.os I6.base I6.hok I6.bare fun b hb => ⟨(f3 b hb).2.2.2.1, (f3 b hb).2.1, (f3 b hb).2.2.2.2⟩
      obtain ⟨m, hn, _⟩ := I6.loc
      have hC : H5 cv.locals = none := I6.free
      obtain ⟨z0, z1, _, z3, z4, z5⟩ := I3.fpOk (b := cv.locals) (Nat.le_of_eq cC.symm) hC
      exact ⟨m, hn, fun hp sb => ⟨.ref D, H5, I7.turned (t' := u6.toks) (fun b o hb e => (sb.2 b hb).trans e) z0 z1 z3 z4 z5, rfl, hq⟩⟩
    · refine thnF (T.item (X.blk t3 H3 scope cv fp) rfl rfl rfl hc i [] u5 _ H5 (fun _ _ => False) I5 (fpB I5 n5) st5 go) fun r u6 ⟨y, hr, q6⟩ => ?_
      subst hr
      refine thnF q6 fun _ u7 ⟨x, H7, I7, r7, y7, st7, n7⟩ => ?_
      refine thnF (pg.run _ u7 _ H7 x y _ (I7.pinned (fpB I7 n7) (T.obj _ _ st7)) r7 (step x H7 y7)) fun _ u8 ⟨σ8, H8, I8, ew, q8⟩ => ?_
      refine wpAny_tests_nil ?_
      have q8 : te (WE W σ) σ8 H8 fun z H9 => ∃ acc, H9 D = some (.lst acc) ∧ acc.length < sizeLine ∧ Nx (upd H9 D (.lst (acc ++ [z]))) := q8
      have pr := pe.run _ u8 σ8 H8 _ (I8.wish E2) q8
      rw [if_pos rfl]
      refine wpAny_mono pr (fun z u9 ⟨yv, H9, I9, r9, acc, hD9, hz9, nx⟩ => ?_) fun v u9 hv => ?_
      · refine app_ok (X := X.blk t3 H3 scope cv fp) I9.unwish hD9 hz9 r9 fun u10 J => ?_
        obtain ⟨m', hm, w'⟩ := hNx _ nx
        have stays : ∀ b ∈ fp, ∀ o, u7.heap.get? b = some o → u10.heap.get? b = some o ∧ upd H9 D (.lst (acc ++ [yv])) b = none := fun b hb o e =>
          let z := J.pin (b, o) (List.mem_append_right _ (List.mem_append_right _ (mem_pinsAt hb e)))
          ⟨z.1, z.2.1⟩
        refine ⟨m', hm, i + 1, _, (J.unpinned (pins := [])).weak (by rw [← ew, wipe_length]) (fun j v e => (wipe_some (show (wipe σ8 (own.map (·.2)))[j]? = some (some v) by rw [ew]; exact e)).1), T.keep _ _ _ st7 fun b hb o e => (stays b hb o e).1, fun b hb => ?_, w'⟩
        obtain ⟨o, e, _⟩ := T.obj _ _ st7 b hb
        exact (stays b hb o e).2
      · have hv : E2 v u9 := hv
        rw [hE2] at hv
        exact hv
  exact codeAny_compStart_list loop (T.self X.A 0 _ _ _ st4 loop)
end
end DL
namespace DL
open PySem PySem.Spec PyProof.Rows L2
/-! ### expressions that may raise -/
abbrev DX (α : Type) := En → (α → Prop) → (Str → Prop) → Prop
/-- what a raise out of an expression is owed -/
abbrev OweX (mg : Str → Option Value) (Wx : WX) (σ : L2.St) (H0 H : Hp) (x : Str → Prop) : Prop := ∀ y C H1 H', Stp H0 H H1 H' → mg y = some (.ref C) → x y → Wx (.ref C) none σ H'
theorem OweX.up {mg : Str → Option Value} {Wx : WX} {σ : L2.St} {H0 H H1 H' : Hp} {x : Str → Prop} (k : OweX mg Wx σ H0 H x) (s : Stp H0 H H1 H') : OweX mg Wx σ H1 H' x := fun y C H2 H2' s2 hm hx => k y C H2 H2' (s.trans s2) hm hx
def SX (K : PySem.W.Frag) (mg : Str → Option Value) {α : Type} (R : KR α) (Wx : WX) (t : TE) (dx : DX α) : Prop :=
  ∀ σ H0 H env, Rel K σ H0 H env → ∀ (q : α → Prop) (x : Str → Prop) (Q : VK), dx env q x → (∀ H1 H' v a, Stp H0 H H1 H' → R H H1 H' v a → q a → Q v H') → OweX mg Wx σ H0 H x → t σ H Q
def PXX (X : Cx) {α : Type} (R : KR α) (Wx : WX) (e : Expr) (dx : DX α) : Prop := ∃ t, PE X e t ∧ SX X.K X.mg R Wx t dx
def SXA (K : PySem.W.Frag) (mg : Str → Option Value) (n : Nat) (Wx : WX) (t : TA) (dx : DX (List PyData)) : Prop :=
  ∀ σ H0 H env, Rel K σ H0 H env → ∀ (q : List PyData → Prop) (x : Str → Prop) (Q : List V → Hp → Prop), dx env q x → (∀ H1 H' vs ds, Stp H0 H H1 H' → vs.length = n → DpAll K H1 vs ds → q ds → Q vs H') → OweX mg Wx σ H0 H x → t σ H Q
def PXXA (X : Cx) (Wx : WX) (es : List Expr) (dx : DX (List PyData)) : Prop := ∃ t, PA X es t ∧ SXA X.K X.mg es.length Wx t dx
def dxOf {α : Type} (d : DE α) : DX α := fun env q _ => d env q
/-- a def that may raise, as a callee -/
structure CalX (P : Program) (w : World) (K : PySem.W.Frag) (mg : Str → Option Value) (base : Heap) (x : Str) {α : Type} (R : PySem.W.Frag → KR α) (c : FnX α) (n lvl : Nat) : Prop where
  ex : ∃ f fd ps, FnOk P w K mg base (L2.CX P w) lvl f fd ps (spX K mg R c n) ∧ mg x = some (.ref f) ∧ PySem.W.keepIn K (.ref f) = true ∧ Binds K fd ps []
/-- .. at values at which it does not raise -/
def c0 {α : Type} (c : FnX α) : Fn α := fun ds q => c ds q fun _ => False
theorem CalX.calm {P : Program} {w : World} {K : PySem.W.Frag} {mg : Str → Option Value} {base : Heap} {x : Str} {α : Type} {R : PySem.W.Frag → KR α} {c : FnX α} {n lvl : Nat} (C : CalX P w K mg base x R c n lvl) : Cal P w K mg base x R (c0 c) n lvl :=
  let ⟨f, fd, ps, F, hm, hk, hb⟩ := C.ex
  ⟨⟨f, fd, ps, ⟨fun vs H Q E ⟨H0, ds, q, h1, h2, h3, h4, h5⟩ => F.len vs H Q (fun _ _ _ => False) ⟨H0, ds, q, _, h1, h2, h3, h4, h5, fun _ _ _ _ _ _ z => z⟩,
    fun A outer s H args us vs Q E a1 a2 a3 a4 ⟨H0, ds, q, h1, h2, h3, h4, h5⟩ => codeAny_mono (F.run A outer s H args us vs Q (fun _ _ _ => False) a1 a2 a3 a4 ⟨H0, ds, q, _, h1, h2, h3, h4, h5, fun _ _ _ _ _ _ z => z⟩) fun r s' hq => by
      cases r with
      | ok fl => cases fl <;> exact hq
      | error e =>
        obtain ⟨_, _, _, _, _, _, _, _, _, _, _, _, z⟩ := hq
        exact z.elim⟩, hm, hk, hb⟩⟩
section
variable {X : Cx} {Wx : WX} {e a : Expr} {es : List Expr} {α : Type} {R : PySem.W.Frag → KR α} {pos p : Pos}
theorem pxx_of {R : KR α} {d : DE α} (h : PX X R e d) : PXX X R Wx e (dxOf d) :=
  let ⟨t, p, s⟩ := h
  ⟨t, p, fun σ H0 H env r q x Q hd k _ => s σ H0 H env r q Q hd k⟩
def dxCall (c : FnX α) (da : DE (List PyData)) : DX α := fun env q x => da env fun ds => c ds q x
theorem s_callX {K : PySem.W.Frag} {mg : Str → Option Value} {n : Nat} {t : TA} {c : FnX α} {da : DE (List PyData)} (hR : KA (R K)) (s : SA K n t da) : SX K mg (R K) Wx (tCallS (spX K mg R c n) (WE Wx) t) (dxCall c da) :=
  fun σ H0 H env rr q x Q hd k kx => s σ H0 H env rr _ _ hd fun H1 H' vs ds st hl hv hq => ⟨H1, ds, q, x, hl, st.i, hv, hq, fun H2 H'' v a st2 hr hqa => k H2 H'' v a (st.trans st2) (hR _ _ _ _ _ _ st.e hr) hqa, fun y C H2 H'' st2 hm hx => kx y C H2 H'' (st.trans st2) hm hx⟩
theorem pxx_call {x : Str} {c : FnX α} {lvl : Nat} {da : DE (List PyData)} (tk : Takes X Wx) (hR : KA (R X.K)) (C : CalX X.prog X.w X.K X.mg X.base x R c (e :: es).length lvl) (hr : Room lvl X.A) (hg : Gl X x) (ha : PXA X (e :: es) da)
    (hdb : (x == ("__debug__" : Str)) = false := by decide) (he : starEach (e :: es) X.env = (false, eval e X.env) :: starEach es X.env := by rfl) (hpl : (backTo pos (starEach es X.env)).any (·.1) = false := by rfl) : PXX X (R X.K) Wx (.Call (.Name x p) (e :: es) [] pos) (dxCall c da) :=
  let ⟨_, _, _, F, hm, hk, hb⟩ := C.ex
  let ⟨_, p1, s1⟩ := ha
  ⟨_, pe_callS F hr hg hm hk hb (fun σ => passAt tk σ) p1 hdb he hpl, s_callX hR s1⟩
def dxNil : DX (List PyData) := fun _ q _ => q []
def dxCons (da : DX PyData) (dr : DX (List PyData)) : DX (List PyData) := fun env q x => da env (fun d => dr env (fun ds => q (d :: ds)) x) x
theorem pxxa_nil : PXXA X Wx [] dxNil := ⟨_, pa_nil, fun σ H0 H env rr q x Q hd k _ => k H0 H [] [] (.rfl rr.i) rfl .nil hd⟩
theorem pxxa_cons {da : DX PyData} {dr : DX (List PyData)} (ha : PXX X (RS X.K) Wx e da) (hr : PXXA X Wx es dr) (hs : starEach (e :: es) X.env = (false, eval e X.env) :: starEach es X.env := by rfl) : PXXA X Wx (e :: es) (dxCons da dr) :=
  let ⟨_, p1, s1⟩ := ha
  let ⟨_, p2, s2⟩ := hr
  ⟨_, pa_cons p1 p2 hs, fun σ H0 H env rr q x Q hd k kx => s1 σ H0 H env rr _ x _ hd (fun H1 H' v d st hv hq => s2 σ H1 H' env (rr.step st) _ x _ hq (fun H2 H'' vs ds st2 hl hvs hq2 =>
    k H2 H'' _ _ (st.trans st2) (by rw [List.length_cons, List.length_cons, hl]) (.cons (Dp.up hv st2.e0) hvs) hq2) (kx.up st)) kx⟩
def dxTup (dr : DX (List PyData)) : DX PyData := fun env q x => dr env (fun ds => q (.tuple ds)) x
theorem pxx_tup {x1} {dr : DX (List PyData)} (h : PXXA X Wx es dr) (hl : es.length ≤ sizeLine := by decide) : PXX X (RS X.K) Wx (.Tuple es x1 pos) (dxTup dr) :=
  let ⟨_, p, s⟩ := h
  ⟨_, pe_tup p, fun σ H0 H env rr q x Q hd k kx => s σ H0 H env rr _ x _ hd (fun H1 H' vs ds st hn hvs hq => ⟨by rw [hn]; exact hl, fun p hp =>
    k _ _ _ _ (st.trans (Stp.new st.i hp)) (Dp.tup (SqT.of upd_same) (hvs.up (same_new (st.i.free hp)))) hq⟩) kx⟩
/-- tuple(a fresh list) -/
def dxMkT (d : DX (List PyData)) : DX PyData := fun env q x => d env (fun ds => q (.tuple ds)) x
theorem pxx_tupO {dx : DX (List PyData)} (hg : Gl X "tuple") (hm : X.mg "tuple" = none) (ha : PXX X (RO X.K) Wx a dx) (he : starEach [a] X.env = (false, eval a X.env) :: starEach [] X.env := by rfl) (hpl : (backTo pos (starEach [] X.env)).any (·.1) = false := by rfl) :
    PXX X (RS X.K) Wx (.Call (.Name "tuple" p) [a] [] pos) (dxMkT dx) :=
  let ⟨_, p1, s1⟩ := ha
  ⟨_, pe_callTy call_tuple_of hg hm PyProof.Rows.boot_tuple (pa_cons p1 pa_nil he) (by decide) (by decide) he hpl, fun σ H0 H env rr q x Q hd k kx => s1 σ H0 H env rr _ x _ hd (fun H1 H' v ds st ⟨c, xs, h1, _, _, h2, h3⟩ hq => by
    subst h1
    exact ⟨c, xs, rfl, .inl ⟨SqL.of h2, fun l hl => k _ _ _ _ (st.trans (Stp.new st.i hl)) (Dp.tup (SqT.of upd_same) (h3.up (same_new (st.i.free hl)))) hq⟩⟩) kx⟩
/-! the comprehension -/
def lcGoX (j : Nat) (dx : DX PyData) (env : En) (q : List PyData → Prop) (x : Str → Prop) : List PyData → List PyData → Prop
  | [], acc => q acc
  | d :: r, acc => dx (env.set j (some (.val d))) (fun y => lcGoX j dx env q x r (acc ++ [y])) x
def dLcX (di : DE (List PyData)) (j : Nat) (dx : DX PyData) : DX (List PyData) := fun env q x => di env fun ds => ds.length ≤ 1000000 ∧ lcGoX j dx (env.set j none) q x ds []
theorem s_lcX {K : PySem.W.Frag} {mg : Str → Option Value} {wi : TI} {j : Nat} {di : DE (List PyData)} {dx : DX PyData} {te : XK → TE}
    (s : ∀ σ H0 H env, Rel K σ H0 H env → ∀ (q : List PyData → Prop) (Q : It → Hp → Prop), di env q → (∀ H1 H' J ds, Stp H0 H H1 H' → ItOk K H1 J ds → q ds → Q J H') → wi σ H Q)
    (st : ∀ E1 : XK, SX K mg (RS K) (fun c d _ H => E1 c d H) (te E1) dx) : SX K mg (RO K) Wx (fun σ => tLc wi (gName j) tYes (te (WE Wx σ)) [j] σ) (dLcX di j dx) := fun σ H0 H env rr q x Q hd k kx => by
  refine s σ H0 H env rr _ _ hd fun H1 H' J ds s0 ⟨io1, io2, io3⟩ ⟨hlen, hgo⟩ => ?_
  intro D hD
  have r1 : Rel K (σ.set j none) H1 H' (env.set j none) := (rr.step s0).setN
  refine ⟨fun i m H'' => m = ds.length - i ∧ i ≤ ds.length ∧ ∃ Hs xs acc, Stp H1 H' Hs H'' ∧ Hs D = none ∧ H'' D = some (.lst xs) ∧ DpAll K Hs xs acc ∧ acc.length ≤ i ∧ lcGoX j dx (env.set j none) q x (ds.drop i) acc,
    ⟨_, rfl, Nat.zero_le _, H1, [], [], Stp.stay s0.i (same_new hD), s0.i.free hD, upd_same, .nil, Nat.zero_le _, hgo⟩, ?_⟩
  rintro i m H'' ⟨rfl, hile, Hs, xs, acc, s1, hDs, hD2, hacc, hal, hg⟩
  have sh : Same H1 H'' := s1.e0.trans s1.i
  by_cases hlt : i < ds.length
  · refine .inr ⟨io1 i H'' sh hlt, fun H3 => ∃ Hs xs acc, Stp H1 H' Hs H3 ∧ Hs D = none ∧ H3 D = some (.lst xs) ∧ DpAll K Hs xs acc ∧ acc.length ≤ i + 1 ∧ lcGoX j dx (env.set j none) q x (ds.drop (i + 1)) acc,
      fun H3 z => ⟨ds.length - (i + 1), by omega, rfl, hlt, z⟩, fun y H3 hy => ?_⟩
    obtain ⟨e1, d, hdi, hx⟩ := io2 i H'' y H3 sh hlt hy
    subst e1
    have ed : ds.drop i = d :: ds.drop (i + 1) := by
      rw [List.drop_eq_getElem_cons hlt]
      rw [List.getElem?_eq_getElem hlt] at hdi
      rw [Option.some.inj hdi]
    rw [ed] at hg
    have r2 : Rel K ((σ.set j none).set j (some y)) Hs H3 ((env.set j none).set j (some (.val d))) := (r1.step s1).setV (Dp.up hx s1.e0)
    refine ⟨by show (List.set (List.set (List.set σ j none) j (some y)) j none) = List.set σ j none; rw [List.set_set, List.set_set], ?_⟩
    unfold tYes
    refine iteT ?_
    refine st (WE Wx σ) _ Hs H3 _ r2 _ x _ hg (fun H5 H5' v a st5 hv hq5 => ?_) (fun z C H5 H5' st5 hm hz => kx z C H5 H5' ((s0.trans s1).trans st5) hm hz)
    have hD5 : H5 D = none := by
      cases hb : H5 D with
      | none => rfl
      | some u =>
        rcases st5.nw D u hb with ⟨w, h3⟩ | h3
        · rw [hDs] at h3; cases h3
        · rw [hD2] at h3; cases h3
    have sT := s1.trans st5
    refine ⟨xs, st5.e _ _ hD2, ?_, H5, xs ++ [v], acc ++ [a], ⟨sT.e0, fun b o e => ?_, fun b o e => ?_, sT.nw⟩, hD5, upd_same, dpAll_app (hacc.up st5.e0) (.cons hv .nil), ?_, hq5⟩
    · rw [dpAll_len hacc]
      exact Nat.lt_of_lt_of_le (show acc.length < 1000000 by omega) line6
    · rw [upd_ne (ne_of_none e hD)]
      exact sT.e _ _ e
    · rw [upd_ne (ne_of_none e hD5)]
      exact sT.i _ _ e
    · rw [List.length_append]
      show acc.length + 1 ≤ i + 1
      omega
  · have e : i = ds.length := by omega
    subst e
    rw [List.drop_length] at hg
    exact .inl ⟨io3 _ H'' sh (Nat.le_refl _), k Hs H'' _ acc (s0.trans s1) ⟨D, xs, rfl, s0.e.free hD, hDs, hD2, hacc⟩ hg⟩
theorem PA.nox {X : Cx} {es : List Expr} {t : TA} (h : PA X.nox es t) : PA X es t := ⟨fun pos pins s σ H Q I hw =>
  wpAny_mono (h.run pos pins s σ H Q (I.wish _) hw) (fun _ _ ⟨v, H', I', r, q⟩ => ⟨v, H', I'.unwish, r, q⟩) fun _ _ z => False.elim z⟩
/-- [f(args) for target in iter] -/
theorem pxx_lc {tg iter : Expr} {scope : Scope} {n x : Str} {j lvl : Nat} {c : FnX PyData} {di : DE (List PyData)} {da : DE (List PyData)} {ta : TA} {lpos : Pos} (tk : Takes X Wx) (hst : X.stack = X.env :: X.outer) (hfm : X.env.frame = some X.env.locals) (hc : X.calm = true) (hN : X.N.Nodup)
    (hi : PXI X tg iter di) (ok : BlkOk X.N X.env.scope scope [(n, j)]) (hg : ∀ (s : Shared) (H : Hp) (C : Addr) (cl : List (Str × Addr)) (fp : List Addr), PG (X.blk s H scope (compEnvC scope cl C X.env) fp) tg (gName j))
    (C : CalX X.prog X.w X.K X.mg X.base x RS c (e :: es).length lvl) (hr : Room lvl X.A) (hgl : ∀ (s : Shared) (H : Hp) (C : Addr) (cl : List (Str × Addr)) (fp : List Addr), Gl (X.blk s H scope (compEnvC scope cl C X.env) fp) x)
    (ha : ∀ (s : Shared) (H : Hp) (C : Addr) (cl : List (Str × Addr)) (fp : List Addr), PA (X.blk s H scope (compEnvC scope cl C X.env) fp) (e :: es) ta) (sa : SA X.K (e :: es).length ta da)
    (hdb : (x == ("__debug__" : Str)) = false := by decide) (he : ∀ cv, starEach (e :: es) cv = (false, eval e cv) :: starEach es cv := by intro _; rfl) (hpl : ∀ cv, (backTo pos (starEach es cv)).any (·.1) = false := by intro _; rfl) (hs : ∀ x, foldedSetIterable iter X.env x = pure x := by intro _; rfl) :
    PXX X (RO X.K) Wx (.ListComp (.Call (.Name x p) (e :: es) [] pos) [⟨tg, iter, [], 0⟩] scope lpos) (dLcX di j (dxCall c da)) :=
  let ⟨_, p1, s1⟩ := hi
  let ⟨_, _, _, F, hm, hk, hb⟩ := C.ex
  ⟨_, pe_lcX (own := [(n, j)]) (te := fun E1 => tCallS (spX X.K X.mg RS c (e :: es).length) (fun _ => E1) ta) tk hst hfm hc hN p1 ok hg (fun E1 E2 s H C cl fp pa =>
    pe_callS F hr (hgl s H C cl fp) hm hk hb pa (PA.nox (ha s H C cl fp)) hdb (he _) (hpl _)) hs, s_lcX s1 fun E1 => s_callX (Wx := fun c d _ H => E1 c d H) ka_S sa⟩
theorem sa_var {K : PySem.W.Frag} {i : Nat} : SA K 1 (tCons (tVar i) tNil) (dCons (dV i) dNil) := fun σ H0 H env r q Q hd k => by
  unfold dCons dV at hd
  split at hd
  · rename_i d hx
    obtain ⟨v, h1, h2⟩ := r.val i d hx
    exact ⟨v, h1, k H0 H [v] [d] (.rfl r.i) rfl (.cons h2 .nil) hd⟩
  · exact hd.elim
theorem se_bl {K : PySem.W.Frag} {b : Bool} : SE K (RS K) (tC (.bl b)) (dC (.bool b)) := fun σ H0 H env r q Q hq k => k H0 H (.bl b) (.bool b) (.rfl r.i) (.bl b) hq
/-! statements -/
variable {W : WN} {d : DS α}
abbrev Links (mg : Str → Option Value) (W : WN) (Wx : WX) : Prop := ∀ y C σ H, mg y = some (.ref C) → W y σ H → Wx (.ref C) none σ H
def dRetX (de : DX α) : DS α := fun q env => de env q.rt q.ex
theorem pz_retX {de : DX α} (hl : Links X.mg W Wx) (hR : KA (R X.K)) (h : PXX X (R X.K) Wx e de) : PZ1 X R W (.Return (some e) pos) (dRetX de) :=
  let ⟨_, p, s⟩ := h
  ⟨_, ps_ret p, fun He H0e σ H0 H env w q D h c => s σ H0 H env w.r _ _ _ h (fun H1 H' v a st hr hq => c.rt H1 H' v a (w.s.trans st) (hR _ _ _ _ _ _ w.s.e hr) hq) fun y C H1 H' st hm hx => hl y C σ H' hm (c.ex y σ H1 H' env (w.step st) st.e0 hx)⟩
def dSetX (i : Nat) (de : DX PyData) : DS α := fun q env => de env (fun x => q.nx (env.set i (some (.val x)))) q.ex
theorem pz_setX {i : Nat} {x : Str} {pos' : Pos} {de : DX PyData} (hl : Links X.mg W Wx) (hN : X.N.Nodup) (hi : X.N[i]? = some x) (hx : Loc X.env.scope x) (he : PXX X (RS X.K) Wx e de) (hs : swapsWith e (some (.Name x pos')) pos.line X.env = pure false := by rfl)
    (hf : X.fn x = true ∨ X.env.scope.names.lookup x = some .local := by first | exact .inl rfl | exact .inr rfl | assumption) : PZ1 X R W (.Assign [.Name x pos'] e pos) (dSetX i de) :=
  let ⟨_, p, s⟩ := he
  ⟨_, ps_set hN hi hx p hs hf, fun He H0e σ H0 H env w q D h c => s σ H0 H env w.r _ _ _ h (fun H1 H' v a st hr hq => c.nx _ H1 H' _ ((w.step st).setV hr) st.e0 hq) fun y C H1 H' st hm hx => hl y C σ H' hm (c.ex y σ H1 H' env (w.step st) st.e0 hx)⟩
/-- try: f(x); except N: suite -/
def dTryX (c : FnX PyData) (i : Nat) (name : Str) (d : DS α) : DS α := fun q env => match env[i]? with
  | some (some (.val v)) => c [v] (fun _ => q.nx env) (fun y => y = name ∧ d q env)
  | _ => False
theorem pz_tryX {x N : Str} {CN : Addr} {c : FnX PyData} {i lvl : Nat} {b₀ : Stmt} {suite : List Stmt} {ts : TS} {np p1 p2 hp : Pos} (tk : Takes X Wx) (hst : X.stack = X.env :: X.outer) (hfm : X.env.frame = some X.env.locals) (hn : L2.Names X N (.ref CN)) (gN : X.mg N = some (.ref CN)) (hm2 : PySem.W.exmOne X.K (.ref CN) (.ref CN) = some true)
    (C : CalX X.prog X.w X.K X.mg X.base x RS c 1 lvl) (hr : Room lvl X.A) (hg : Gl X x) (hv : ∀ (pn : List (Addr × Obj)) (xe : Value → Shared → Prop), PE (X.tr pn xe) e (tVar i))
    (hsu : ∀ (a : Addr) (pn : List (Addr × Obj)), PSs (X.suite a pn) (b₀ :: suite) ts) (hz : SZ X.K (R X.K) W ts d)
    (hdb : (x == ("__debug__" : Str)) = false := by decide) (he : starEach [e] X.env = (false, eval e X.env) :: starEach [] X.env := by rfl) (hpl : (backTo p1 (starEach [] X.env)).any (·.1) = false := by rfl) (hsw : swapsWith (.Call (.Name x p) [e] [] p1) none p2.line X.env = pure false := by rfl) :
    PZ1 X R W (.Try [.Expr (.Call (.Name x p) [e] [] p1) p2] [.ExceptHandler (some (.Name N np)) none (b₀ :: suite) hp] [] [] pos) (dTryX c i N d) :=
  let ⟨_, _, _, F, hm, hk, hb⟩ := C.ex
  ⟨_, ps_try_only (tb := fun W' => tDrop (tCallS (spX X.K X.mg RS c 1) (WE W') (tCons (tVar i) tNil))) (ts := fun _ _ _ => ts) (Wout := fun _ _ _ _ => False) hst hfm hn (fun u s' ⟨_, _, _, _, _, _, _, _, _, _, _, _, _, _, _, _, z⟩ => z.elim)
    (fun W' pn xe tk' _ => pss_one (ps_expr (pe_callS F hr hg hm hk hb (fun σ => passAt tk' σ) (pa_cons (hv pn xe) pa_nil he) hdb he hpl) hsw)) (fun a oe cls dd pn _ _ => hsu a _),
  fun He H0e σ H0 H env w q D h k => by
    unfold dTryX at h
    split at h
    · rename_i v hx
      obtain ⟨u, h1, h2⟩ := w.r.val i v hx
      refine ⟨u, h1, ?_⟩
      refine ⟨H0, [v], _, _, rfl, w.r.i, .cons h2 .nil, h, fun H1 H' v' a st hr hq => k.nx σ H1 H' env (w.step st) st.e0 hq, fun y C H1 H' st hmy ⟨hy, hq⟩ => ?_⟩
      subst hy
      have e2 : C = CN := by
        have := hmy.symm.trans gN
        cases this
        rfl
      subst e2
      exact ⟨true, hm2, fun _ a ha => hz He H0e σ H1 H' env (w.step st) q D hq (k.up st.e0), fun z => nomatch z⟩
    · exact h.elim⟩
/-! ### in a tuple; join -/
def rInT (K : PySem.W.Frag) : R2 := fun x y H Q => ∃ d ds, Dp K H x d ∧ Dp K H y (.tuple ds) ∧ SeqAt.shaped d = true ∧ SeqAt.shaped (.tuple ds) = true ∧ Q (.bl (ds.any fun z => PyData.eqv z d)) H
theorem op_inT (hu : X.A.units + 65 < cLine) : OpR X (compareOp .In) (rInT X.K) := fun pins s σ H x y v u Q I rx ry ⟨d, ds, hd, he, sd, se, q⟩ =>
  let ⟨_, r1⟩ := Dp.reads I d x v hd rx
  let ⟨_, r2⟩ := Dp.reads I (.tuple ds) y u he ry
  SeqAt.in_tuple_reads r2 r1 (SeqAt.canLay_of_shaped se) (SeqAt.canLay_of_shaped sd) (room_in_shaped sd hu) ⟨.bl _, H, I, rfl, q⟩
def fInT : D2 := fun d e q => match e with
  | .tuple ds => SeqAt.shaped d = true ∧ SeqAt.shaped (.tuple ds) = true ∧ q (.bool (ds.any fun z => PyData.eqv z d))
  | _ => False
theorem od_inT {K : PySem.W.Frag} : OpD K (rInT K) fInT := by
  intro H x y d e q Q hx hy hf k
  cases e <;> try exact hf.elim
  exact ⟨d, _, hx, hy, hf.1, hf.2.1, k _ _ (.bl _) hf.2.2⟩
def dJoin (da db : DE PyData) : DE PyData := fun env q => da env fun x => match x with
  | .str a => db env fun y => match y with
    | .list ds => ∃ ys : List Str, ds = ys.map PyData.str ∧ (ys.map (·.length)).sum + ys.length * a.length ≤ 16777216 ∧ q (.str (Txt.join a ys))
    | _ => False
  | _ => False
theorem dpStrs {K : PySem.W.Frag} {H : Hp} : ∀ {ns : List Str} {xs : List V}, DpAll K H xs (ns.map PyData.str) → xs = ns.map V.str
  | [], _, h => by cases h; rfl
  | n :: ns, _, h => by
    cases h with
    | cons a b =>
      cases a
      rw [dpStrs b]
      rfl
theorem px_join {o : Expr} {apos : Pos} {da db : DE PyData} (ho : PX X (RU X.K) o da) (he : PX X (RU X.K) e db) (hs : starEach [e] X.env = [(false, eval e X.env)] := by rfl) (hbase : attributeBase o "join" X.env (eval o X.env) = eval o X.env := by rfl) (hline : (apos.endLine == pos.line) = true := by rfl) :
    PX X (RS X.K) (.Call (.Attribute o "join" apos) [e] [] pos) (dJoin da db) :=
  let ⟨_, p1, s1⟩ := ho
  let ⟨_, p2, s2⟩ := he
  ⟨_, pe_join p1 p2 hs hbase hline, fun σ H0 H env rr q Q hd k => s1 σ H0 H env rr _ _ hd fun H1 H' v x st hv hq => by
    cases x with
    | str a =>
      have hv' : Dp X.K H' v (.str a) := hv
      cases hv'
      refine ⟨⟨_, rfl⟩, s2 σ H1 H' env (rr.step st) _ _ hq fun H2 H'' w y st2 hw hq2 => ?_⟩
      cases y with
      | list ds =>
        obtain ⟨ys, rfl, hz, hq3⟩ := hq2
        have hw' : Dp X.K H'' w (.list (ys.map PyData.str)) := hw
        cases hw' with
        | lst a b =>
          have e := dpStrs b
          subst e
          exact ⟨_, _, ys, rfl, rfl, .inl a, hz, k H2 H'' _ _ (st.trans st2) (.str _) hq3⟩
      | _ => exact hq2.elim
    | _ => exact hq.elim⟩
end
end DL
namespace DL
open PySem PySem.Spec PyProof.Rows L2
/-! slots of l_mix: ['cell', 'k'] -/
abbrev d_l_mix : DS PyData :=
  (dRet (d2 fMod (d2 fAdd (d2 fMul (dVU 0) (dC (.int 48271))) (d2 fMul (dVU 1) (dC (.int 40692)))) (dC (.int 2147483647))))
theorem x_l_mix  : ∃ c : Fn PyData, ∀ ds q, c ds q ↔ fnc 0 (d_l_mix ) ds q := ⟨_, fun _ _ => Iff.rfl⟩
noncomputable def c_l_mix  : Fn PyData := Classical.choose (x_l_mix )
theorem u_l_mix  {ds : List PyData} {q : PyData → Prop} (h : fnc 0 (d_l_mix ) ds q) : c_l_mix  ds q := (Classical.choose_spec (x_l_mix ) ds q).mpr h
theorem v_l_mix  {ds : List PyData} {q : PyData → Prop} (h : c_l_mix  ds q) : fnc 0 (d_l_mix ) ds q := (Classical.choose_spec (x_l_mix ) ds q).mp h

/-! slots of l_cell_at: ['script', 'k'] -/
abbrev d_l_cell_at : DS PyData :=
  (dSeq (dIf (dB (d2 fLt (dVU 1) (dF fLen (dCons (dVU 0) dNil)))) (dRet (d2 fIx (dV 0) (dVU 1))) dNext)
    (dRet (dC (.int 0))))
theorem x_l_cell_at  : ∃ c : Fn PyData, ∀ ds q, c ds q ↔ fnc 0 (d_l_cell_at ) ds q := ⟨_, fun _ _ => Iff.rfl⟩
noncomputable def c_l_cell_at  : Fn PyData := Classical.choose (x_l_cell_at )
theorem u_l_cell_at  {ds : List PyData} {q : PyData → Prop} (h : fnc 0 (d_l_cell_at ) ds q) : c_l_cell_at  ds q := (Classical.choose_spec (x_l_cell_at ) ds q).mpr h
theorem v_l_cell_at  {ds : List PyData} {q : PyData → Prop} (h : c_l_cell_at  ds q) : fnc 0 (d_l_cell_at ) ds q := (Classical.choose_spec (x_l_cell_at ) ds q).mp h

/-! slots of l_pick: ['script', 'k'] -/
abbrev d_l_pick : DS PyData :=
  (dSeq (dIf (dB (d2 fLt (dVU 1) (dF fLen (dCons (dVU 0) dNil)))) (dRet (d2 fIx (dV 0) (dVU 1))) dNext)
    (dRet (d2 fDiv (d2 fMod (d2 fMul (d2 fAdd (d2 fAdd (dF c_l_cell_at (dCons (dV 0) (dCons (dC (.int 0)) dNil))) (d2 fMul (dC (.int 7)) (dVU 1))) (dC (.int 3))) (dC (.int 48271))) (dC (.int 2147483647))) (dC (.int 13)))))
theorem x_l_pick  : ∃ c : Fn PyData, ∀ ds q, c ds q ↔ fnc 0 (d_l_pick ) ds q := ⟨_, fun _ _ => Iff.rfl⟩
noncomputable def c_l_pick  : Fn PyData := Classical.choose (x_l_pick )
theorem u_l_pick  {ds : List PyData} {q : PyData → Prop} (h : fnc 0 (d_l_pick ) ds q) : c_l_pick  ds q := (Classical.choose_spec (x_l_pick ) ds q).mpr h
theorem v_l_pick  {ds : List PyData} {q : PyData → Prop} (h : c_l_pick  ds q) : fnc 0 (d_l_pick ) ds q := (Classical.choose_spec (x_l_pick ) ds q).mp h

/-! slots of l_machine: ['script', 'start', 'rooms', 'signs', 'rules', 'k', 'number'] -/
abbrev d_l_machine : DS PyData :=
  (dSeq (dSetO 4 dNil)
    (dSeq (dFor (dRng1 (d2 fMul (dVU 2) (dVU 3))) 5 (dSeq (dSet 6 (dF c_l_mix (dCons (dF c_l_pick (dCons (dV 0) (dCons (d2 fAdd (dVU 1) (dVU 5)) dNil))) (dCons (dV 5) dNil))))
    (dIf (dB (d2 fEq (d2 fMod (dVU 6) (dC (.int 5))) (dC (.int 0)))) (dApp 4 (dC .none)) (dApp 4 (dTup (dCons (d2 fMod (d2 fDiv (dVU 6) (dC (.int 5))) (dVU 3)) (dCons (d2 fMod (d2 fDiv (dVU 6) (dC (.int 64))) (dC (.int 2))) (dCons (d2 fMod (d2 fDiv (dVU 6) (dC (.int 512))) (dVU 2)) dNil))))))))
    (dRet (dTup (dCons (dV 2) (dCons (dV 3) (dCons (dMkT (dVM 4)) dNil)))))))
theorem x_l_machine  : ∃ c : Fn PyData, ∀ ds q, c ds q ↔ fnc 3 (d_l_machine ) ds q := ⟨_, fun _ _ => Iff.rfl⟩
noncomputable def c_l_machine  : Fn PyData := Classical.choose (x_l_machine )
theorem u_l_machine  {ds : List PyData} {q : PyData → Prop} (h : fnc 3 (d_l_machine ) ds q) : c_l_machine  ds q := (Classical.choose_spec (x_l_machine ) ds q).mpr h
theorem v_l_machine  {ds : List PyData} {q : PyData → Prop} (h : c_l_machine  ds q) : fnc 3 (d_l_machine ) ds q := (Classical.choose_spec (x_l_machine ) ds q).mp h

/-! slots of l_spoilt: ['machine', 'way', 'cell', 'rules', 'at', 'part', 'row'] -/
abbrev d_l_spoilt : DS PyData :=
  (dSeq (dSetO 3 (dAsT (d2 fIx (dV 0) (dC (.int 2)))))
    (dSeq (dIf (dAnd (dB (d2 fEq (dVU 1) (dC (.int 1)))) (dB (d2 fGt (dF fLen (dCons (dVU 3) dNil)) (dC (.int 0))))) (dSeq (dSet 4 (d2 fMod (dVU 2) (dF fLen (dCons (dVU 3) dNil))))
    (dSeq (dSet 5 (d2 fMod (d2 fDiv (dVU 2) (dC (.int 64))) (dC (.int 3))))
    (dSeq (dSetO 6 (dCons (dC (.int 0)) (dCons (dC (.int 0)) (dCons (dC (.int 0)) dNil))))
    (dSeq (dPut 6 (dVU 5) (d2 fAdd (dIxL (dCons (d2 fIx (dV 0) (dC (.int 1))) (dCons (dC (.int 2)) (dCons (d2 fIx (dV 0) (dC (.int 0))) dNil))) (dVU 5)) (d2 fMod (d2 fDiv (dVU 2) (dC (.int 512))) (d2 fPow (dC (.int 10)) (dC (.int 20))))))
    (dSeq (dIf (dB (d2 fEq (d2 fMod (d2 fDiv (dVU 2) (dC (.int 192))) (dC (.int 2))) (dC (.int 1)))) (dPut 6 (dVU 5) (d2 fSub (d1 fNeg (dC (.int 1))) (d2 fMod (d2 fDiv (dVU 2) (dC (.int 512))) (d2 fPow (dC (.int 10)) (dC (.int 20)))))) dNext)
    (dPut 3 (dVU 4) (dMkT (dVM 6)))))))) dNext)
    (dSeq (dIf (dB (d2 fEq (dVU 1) (dC (.int 2)))) (dApp 3 (dTup (dCons (dC (.int 0)) (dCons (dC (.int 0)) (dCons (dC (.int 0)) dNil))))) dNext)
    (dSeq (dIf (dB (d2 fEq (dVU 1) (dC (.int 3)))) (dSetO 3 (dSlL (dVM 3) (dSo (dC (.int 1))) dNo)) dNext)
    (dRet (dTup (dCons (d2 fIx (dV 0) (dC (.int 0))) (dCons (d2 fIx (dV 0) (dC (.int 1))) (dCons (dMkT (dVM 3)) dNil)))))))))
theorem x_l_spoilt  : ∃ c : Fn PyData, ∀ ds q, c ds q ↔ fnc 4 (d_l_spoilt ) ds q := ⟨_, fun _ _ => Iff.rfl⟩
noncomputable def c_l_spoilt  : Fn PyData := Classical.choose (x_l_spoilt )
theorem u_l_spoilt  {ds : List PyData} {q : PyData → Prop} (h : fnc 4 (d_l_spoilt ) ds q) : c_l_spoilt  ds q := (Classical.choose_spec (x_l_spoilt ) ds q).mpr h
theorem v_l_spoilt  {ds : List PyData} {q : PyData → Prop} (h : c_l_spoilt  ds q) : fnc 4 (d_l_spoilt ) ds q := (Classical.choose_spec (x_l_spoilt ) ds q).mp h

/-! slots of p_ruled: ['rule', 'rooms', 'signs'] -/
abbrev d_p_ruled : DS PyData :=
  (dSeq (dIf (dB (d2 fIsN (dVU 0) (dC .none))) (dRet (dC (.bool true))) dNext)
    (dRet (dAndV (dChain fLe fLt (dC (.int 0)) (d2 fIx (dV 0) (dC (.int 0))) (dVU 2)) (dAndV (dChain fLe fLt (dC (.int 0)) (d2 fIx (dV 0) (dC (.int 1))) (dC (.int 2))) (dChain fLe fLt (dC (.int 0)) (d2 fIx (dV 0) (dC (.int 2))) (dVU 1))))))
theorem x_p_ruled  : ∃ c : Fn PyData, ∀ ds q, c ds q ↔ fnc 0 (d_p_ruled ) ds q := ⟨_, fun _ _ => Iff.rfl⟩
noncomputable def c_p_ruled  : Fn PyData := Classical.choose (x_p_ruled )
theorem u_p_ruled  {ds : List PyData} {q : PyData → Prop} (h : fnc 0 (d_p_ruled ) ds q) : c_p_ruled  ds q := (Classical.choose_spec (x_p_ruled ) ds q).mpr h
theorem v_p_ruled  {ds : List PyData} {q : PyData → Prop} (h : c_p_ruled  ds q) : fnc 0 (d_p_ruled ) ds q := (Classical.choose_spec (x_p_ruled ) ds q).mp h

/-! slots of p_looked: ['machine', 'many', 'rule'] -/
abbrev d_p_looked : DS PyData :=
  (dSeq (dIf (dOr (dNot (dB (dChain fLe fLe (dC (.int 1)) (d2 fIx (dV 0) (dC (.int 0))) (dC (.int 6))))) (dNot (dB (dChain fLe fLe (dC (.int 2)) (d2 fIx (dV 0) (dC (.int 1))) (dC (.int 4)))))) dNever dNext)
    (dSeq (dIf (dB (d2 fNe (dF fLen (dCons (d2 fIx (dV 0) (dC (.int 2))) dNil)) (d2 fMul (d2 fIx (dV 0) (dC (.int 0))) (d2 fIx (dV 0) (dC (.int 1)))))) dNever dNext)
    (dSeq (dSet 1 (dC (.int 0)))
    (dSeq (dFor (dAsT (d2 fIx (dV 0) (dC (.int 2)))) 2 (dSeq (dIf (dNot (dB (dF c_p_ruled (dCons (dV 2) (dCons (d2 fIx (dV 0) (dC (.int 0))) (dCons (d2 fIx (dV 0) (dC (.int 1))) dNil)))))) dNever dNext)
    (dIf (dB (d2 fNotN (dVU 2) (dC .none))) (dSet 1 (d2 fAdd (dVU 1) (dC (.int 1)))) dNext)))
    (dRet (dV 1))))))
theorem x_p_looked  : ∃ c : Fn PyData, ∀ ds q, c ds q ↔ fnc 2 (d_p_looked ) ds q := ⟨_, fun _ _ => Iff.rfl⟩
noncomputable def c_p_looked  : Fn PyData := Classical.choose (x_p_looked )
theorem u_p_looked  {ds : List PyData} {q : PyData → Prop} (h : fnc 2 (d_p_looked ) ds q) : c_p_looked  ds q := (Classical.choose_spec (x_p_looked ) ds q).mpr h
theorem v_p_looked  {ds : List PyData} {q : PyData → Prop} (h : c_p_looked  ds q) : fnc 2 (d_p_looked ) ds q := (Classical.choose_spec (x_p_looked ) ds q).mp h

/-! slots of l_good: ['machine', 'rule'] -/
abbrev d_l_good : DS PyData :=
  (dSeq (dIf (dOr (dNot (dB (dChain fLe fLe (dC (.int 1)) (d2 fIx (dV 0) (dC (.int 0))) (dC (.int 6))))) (dOr (dNot (dB (dChain fLe fLe (dC (.int 2)) (d2 fIx (dV 0) (dC (.int 1))) (dC (.int 4))))) (dB (d2 fNe (dF fLen (dCons (d2 fIx (dV 0) (dC (.int 2))) dNil)) (d2 fMul (d2 fIx (dV 0) (dC (.int 0))) (d2 fIx (dV 0) (dC (.int 1)))))))) (dRet (dC (.bool false))) dNext)
    (dSeq (dFor (dAsT (d2 fIx (dV 0) (dC (.int 2)))) 1 (dIf (dB (d2 fNotN (dVU 1) (dC .none))) (dIf (dOr (dB (d2 fLt (dF fMin (dCons (dVU 1) dNil)) (dC (.int 0)))) (dOr (dB (d2 fGe (d2 fIx (dV 1) (dC (.int 0))) (d2 fIx (dV 0) (dC (.int 1))))) (dOr (dB (d2 fGt (d2 fIx (dV 1) (dC (.int 1))) (dC (.int 1)))) (dB (d2 fGe (d2 fIx (dV 1) (dC (.int 2))) (d2 fIx (dV 0) (dC (.int 0)))))))) (dRet (dC (.bool false))) dNext) dNext))
    (dRet (dC (.bool true)))))
theorem x_l_good  : ∃ c : Fn PyData, ∀ ds q, c ds q ↔ fnc 1 (d_l_good ) ds q := ⟨_, fun _ _ => Iff.rfl⟩
noncomputable def c_l_good  : Fn PyData := Classical.choose (x_l_good )
theorem u_l_good  {ds : List PyData} {q : PyData → Prop} (h : fnc 1 (d_l_good ) ds q) : c_l_good  ds q := (Classical.choose_spec (x_l_good ) ds q).mpr h
theorem v_l_good  {ds : List PyData} {q : PyData → Prop} (h : c_l_good  ds q) : fnc 1 (d_l_good ) ds q := (Classical.choose_spec (x_l_good ) ds q).mp h

/-! slots of l_whole: ['x'] -/
abbrev d_l_whole : DS PyData :=
  (dRet (dAndV (d1 (fIsi isInt) (dVU 0)) (dNotV (d1 (fIsi isBool) (dVU 0)))))
theorem x_l_whole  : ∃ c : Fn PyData, ∀ ds q, c ds q ↔ fnc 0 (d_l_whole ) ds q := ⟨_, fun _ _ => Iff.rfl⟩
noncomputable def c_l_whole  : Fn PyData := Classical.choose (x_l_whole )
theorem u_l_whole  {ds : List PyData} {q : PyData → Prop} (h : fnc 0 (d_l_whole ) ds q) : c_l_whole  ds q := (Classical.choose_spec (x_l_whole ) ds q).mpr h
theorem v_l_whole  {ds : List PyData} {q : PyData → Prop} (h : c_l_whole  ds q) : fnc 0 (d_l_whole ) ds q := (Classical.choose_spec (x_l_whole ) ds q).mp h

abbrev dx_p_looked : DS PyData :=
  (dSeq (dIf (dOr (dNot (dB (dChain fLe fLe (dC (.int 1)) (d2 fIx (dV 0) (dC (.int 0))) (dC (.int 6))))) (dNot (dB (dChain fLe fLe (dC (.int 2)) (d2 fIx (dV 0) (dC (.int 1))) (dC (.int 4)))))) (dRaise "NoMachine") dNext)
    (dSeq (dIf (dB (d2 fNe (dF fLen (dCons (d2 fIx (dV 0) (dC (.int 2))) dNil)) (d2 fMul (d2 fIx (dV 0) (dC (.int 0))) (d2 fIx (dV 0) (dC (.int 1)))))) (dRaise "NoMachine") dNext)
    (dSeq (dSet 1 (dC (.int 0)))
    (dSeq (dFor (dAsT (d2 fIx (dV 0) (dC (.int 2)))) 2 (dSeq (dIf (dNot (dB (dF c_p_ruled (dCons (dV 2) (dCons (d2 fIx (dV 0) (dC (.int 0))) (dCons (d2 fIx (dV 0) (dC (.int 1))) dNil)))))) (dRaise "NoMachine") dNext)
    (dIf (dB (d2 fNotN (dVU 2) (dC .none))) (dSet 1 (d2 fAdd (dVU 1) (dC (.int 1)))) dNext)))
    (dRet (dV 1))))))
theorem xx_p_looked : ∃ c : FnX PyData, ∀ ds q x, c ds q x ↔ fncX 2 dx_p_looked ds q x := ⟨_, fun _ _ _ => Iff.rfl⟩
noncomputable def cx_p_looked : FnX PyData := Classical.choose xx_p_looked
theorem ux_p_looked {ds : List PyData} {q : PyData → Prop} {x : Str → Prop} (h : fncX 2 dx_p_looked ds q x) : cx_p_looked ds q x := (Classical.choose_spec xx_p_looked ds q x).mpr h
theorem vx_p_looked {ds : List PyData} {q : PyData → Prop} {x : Str → Prop} (h : cx_p_looked ds q x) : fncX 2 dx_p_looked ds q x := (Classical.choose_spec xx_p_looked ds q x).mp h
theorem x_l_refused_k01 : ∃ c : Fn PyData, ∀ ds q, c ds q ↔ refused0 cx_p_looked "NoMachine" ds q := ⟨_, fun _ _ => Iff.rfl⟩
noncomputable def c_l_refused_k01 : Fn PyData := Classical.choose x_l_refused_k01
theorem u_l_refused_k01 {ds : List PyData} {q : PyData → Prop} (h : refused0 cx_p_looked "NoMachine" ds q) : c_l_refused_k01 ds q := (Classical.choose_spec x_l_refused_k01 ds q).mpr h
theorem v_l_refused_k01 {ds : List PyData} {q : PyData → Prop} (h : c_l_refused_k01 ds q) : refused0 cx_p_looked "NoMachine" ds q := (Classical.choose_spec x_l_refused_k01 ds q).mp h

/-! slots of law_k01: ['script', 'rooms', 'signs', 'machine', 'way', 'found', 'rule'] -/
abbrev d_law_k01 : DS PyData :=
  (dSeq (dSet 1 (d2 fAdd (dC (.int 1)) (d2 fMod (dF c_l_cell_at (dCons (dV 0) (dCons (dC (.int 0)) dNil))) (dC (.int 6)))))
    (dSeq (dSet 2 (d2 fAdd (dC (.int 2)) (d2 fMod (d2 fDiv (dF c_l_cell_at (dCons (dV 0) (dCons (dC (.int 0)) dNil))) (dC (.int 6))) (dC (.int 3)))))
    (dSeq (dSet 3 (dF c_l_machine (dCons (dV 0) (dCons (dC (.int 4)) (dCons (dV 1) (dCons (dV 2) dNil))))))
    (dSeq (dIf (dB (d2 fEq (d2 fMod (dF c_l_cell_at (dCons (dV 0) (dCons (dC (.int 1)) dNil))) (dC (.int 7))) (dC (.int 1)))) (dSeq (dSet 4 (d2 fMod (dF c_l_cell_at (dCons (dV 0) (dCons (dC (.int 2)) dNil))) (dC (.int 4))))
    (dSet 3 (dTup (dCons (dIxL (dCons (dC (.int 0)) (dCons (dC (.int 7)) (dCons (dV 1) (dCons (dV 1) dNil)))) (dVU 4)) (dCons (dIxL (dCons (dV 2) (dCons (dV 2) (dCons (dC (.int 1)) (dCons (dC (.int 5)) dNil)))) (dVU 4)) (dCons (d2 fIx (dV 3) (dC (.int 2))) dNil)))))) dNext)
    (dSeq (dSet 3 (dF c_l_spoilt (dCons (dV 3) (dCons (d2 fMod (d2 fDiv (dF c_l_cell_at (dCons (dV 0) (dCons (dC (.int 1)) dNil))) (dC (.int 7))) (dC (.int 5))) (dCons (dF c_l_cell_at (dCons (dV 0) (dCons (dC (.int 3)) dNil))) dNil)))))
    (dSeq (dIf (dNot (dB (dF c_l_good (dCons (dV 3) dNil)))) (dRet (dAndV (dF c_l_refused_k01 (dCons (dV 3) dNil)) (dF c_l_refused_k01 (dCons (dV 3) dNil)))) dNext)
    (dSeq (dSet 5 (dF c_p_looked (dCons (dV 3) dNil)))
    (dRet (dAndV (dF c_l_whole (dCons (dV 5) dNil)) (d2 fEq (dVU 5) (dF fLen (dCons (dAsD (dLc (dAsT (d2 fIx (dV 3) (dC (.int 2)))) 6 (dB (d2 fNotN (dVU 6) (dC .none))) (dV 6))) dNil))))))))))))
theorem x_law_k01  : ∃ c : Fn PyData, ∀ ds q, c ds q ↔ fnc 6 (d_law_k01 ) ds q := ⟨_, fun _ _ => Iff.rfl⟩
noncomputable def c_law_k01  : Fn PyData := Classical.choose (x_law_k01 )
theorem u_law_k01  {ds : List PyData} {q : PyData → Prop} (h : fnc 6 (d_law_k01 ) ds q) : c_law_k01  ds q := (Classical.choose_spec (x_law_k01 ) ds q).mpr h
theorem v_law_k01  {ds : List PyData} {q : PyData → Prop} (h : c_law_k01  ds q) : fnc 6 (d_law_k01 ) ds q := (Classical.choose_spec (x_law_k01 ) ds q).mp h

/-! slots of l_row: ['number', 'signs', 'found'] -/
abbrev d_l_row : DS PyData :=
  (dSeq (dSetO 2 dNil)
    (dSeq (dWhile (dB (d2 fGt (dVU 0) (dC (.int 0)))) (dSeq (dApp 2 (d2 fMod (dVU 0) (dVU 1)))
    (dSet 0 (d2 fDiv (dVU 0) (dVU 1)))))
    (dRet (dMkT (dVM 2)))))
theorem x_l_row  : ∃ c : Fn PyData, ∀ ds q, c ds q ↔ fnc 1 (d_l_row ) ds q := ⟨_, fun _ _ => Iff.rfl⟩
noncomputable def c_l_row  : Fn PyData := Classical.choose (x_l_row )
theorem u_l_row  {ds : List PyData} {q : PyData → Prop} (h : fnc 1 (d_l_row ) ds q) : c_l_row  ds q := (Classical.choose_spec (x_l_row ) ds q).mpr h
theorem v_l_row  {ds : List PyData} {q : PyData → Prop} (h : c_l_row  ds q) : fnc 1 (d_l_row ) ds q := (Classical.choose_spec (x_l_row ) ds q).mp h

/-! slots of l_stand: ['machine', 'cell', 'second', 'most', 'number', 'other', 'third', 'left', 'right'] -/
abbrev d_l_stand : DS PyData :=
  (dSeq (dSet 4 (d2 fMod (d2 fAdd (d2 fMul (dVU 1) (dC (.int 69621))) (dC (.int 13))) (dC (.int 2147483629))))
    (dSeq (dSet 5 (d2 fMod (d2 fAdd (d2 fMul (dVU 2) (dC (.int 39373))) (dC (.int 7))) (dC (.int 2147483587))))
    (dSeq (dSet 6 (dF c_l_mix (dCons (d2 fAdd (dVU 1) (d2 fMul (dC (.int 3)) (dVU 2))) (dCons (dC (.int 5)) dNil))))
    (dSeq (dSet 7 (dF c_l_row (dCons (d2 fMod (dVU 4) (dVU 3)) (dCons (d2 fIx (dV 0) (dC (.int 1))) dNil))))
    (dSeq (dSet 8 (dF c_l_row (dCons (d2 fMod (dVU 5) (dVU 3)) (dCons (d2 fIx (dV 0) (dC (.int 1))) dNil))))
    (dRet (dTup (dCons (d2 fMod (dVU 6) (d2 fIx (dV 0) (dC (.int 0)))) (dCons (dV 7) (dCons (d2 fMod (d2 fDiv (dVU 6) (dC (.int 64))) (d2 fIx (dV 0) (dC (.int 1)))) (dCons (dV 8) dNil)))))))))))
theorem x_l_stand  : ∃ c : Fn PyData, ∀ ds q, c ds q ↔ fnc 5 (d_l_stand ) ds q := ⟨_, fun _ _ => Iff.rfl⟩
noncomputable def c_l_stand  : Fn PyData := Classical.choose (x_l_stand )
theorem u_l_stand  {ds : List PyData} {q : PyData → Prop} (h : fnc 5 (d_l_stand ) ds q) : c_l_stand  ds q := (Classical.choose_spec (x_l_stand ) ds q).mpr h
theorem v_l_stand  {ds : List PyData} {q : PyData → Prop} (h : c_l_stand  ds q) : fnc 5 (d_l_stand ) ds q := (Classical.choose_spec (x_l_stand ) ds q).mp h

/-! slots of l_number: ['row', 'signs', 'found', 'k'] -/
abbrev d_l_number : DS PyData :=
  (dSeq (dSet 2 (dC (.int 0)))
    (dSeq (dFor (dRng1 (dF fLen (dCons (dVU 0) dNil))) 3 (dSet 2 (d2 fAdd (d2 fMul (dVU 2) (dVU 1)) (d2 fIx (dV 0) (d2 fSub (d2 fSub (dF fLen (dCons (dVU 0) dNil)) (dC (.int 1))) (dVU 3))))))
    (dRet (dV 2))))
theorem x_l_number  : ∃ c : Fn PyData, ∀ ds q, c ds q ↔ fnc 2 (d_l_number ) ds q := ⟨_, fun _ _ => Iff.rfl⟩
noncomputable def c_l_number  : Fn PyData := Classical.choose (x_l_number )
theorem u_l_number  {ds : List PyData} {q : PyData → Prop} (h : fnc 2 (d_l_number ) ds q) : c_l_number  ds q := (Classical.choose_spec (x_l_number ) ds q).mpr h
theorem v_l_number  {ds : List PyData} {q : PyData → Prop} (h : c_l_number  ds q) : fnc 2 (d_l_number ) ds q := (Classical.choose_spec (x_l_number ) ds q).mp h

/-! slots of l_next: ['machine', 'stand', 'rule', 'piles', 'near'] -/
abbrev d_l_next : DS PyData :=
  (dSeq (dSet 2 (d2 fIx (d2 fIx (dV 0) (dC (.int 2))) (d2 fAdd (d2 fMul (d2 fIx (dV 1) (dC (.int 0))) (d2 fIx (dV 0) (dC (.int 1)))) (d2 fIx (dV 1) (dC (.int 2))))))
    (dSeq (dIf (dB (d2 fIsN (dVU 2) (dC .none))) (dRet (dC .none)) dNext)
    (dSeq (dSetO 3 (dCons (dF c_l_number (dCons (d2 fIx (dV 1) (dC (.int 1))) (dCons (d2 fIx (dV 0) (dC (.int 1))) dNil))) (dCons (dF c_l_number (dCons (d2 fIx (dV 1) (dC (.int 3))) (dCons (d2 fIx (dV 0) (dC (.int 1))) dNil))) dNil)))
    (dSeq (dSet 4 (dIxL (dVM 3) (d2 fIx (dV 2) (dC (.int 1)))))
    (dSeq (dPut 3 (d2 fSub (dC (.int 1)) (d2 fIx (dV 2) (dC (.int 1)))) (d2 fAdd (d2 fMul (dIxL (dVM 3) (d2 fSub (dC (.int 1)) (d2 fIx (dV 2) (dC (.int 1))))) (d2 fIx (dV 0) (dC (.int 1)))) (d2 fIx (dV 2) (dC (.int 0)))))
    (dSeq (dPut 3 (d2 fIx (dV 2) (dC (.int 1))) (d2 fDiv (dVU 4) (d2 fIx (dV 0) (dC (.int 1)))))
    (dRet (dTup (dCons (d2 fIx (dV 2) (dC (.int 2))) (dCons (dF c_l_row (dCons (dIxL (dVM 3) (dC (.int 0))) (dCons (d2 fIx (dV 0) (dC (.int 1))) dNil))) (dCons (d2 fMod (dVU 4) (d2 fIx (dV 0) (dC (.int 1)))) (dCons (dF c_l_row (dCons (dIxL (dVM 3) (dC (.int 1))) (dCons (d2 fIx (dV 0) (dC (.int 1))) dNil))) dNil))))))))))))
theorem x_l_next  : ∃ c : Fn PyData, ∀ ds q, c ds q ↔ fnc 3 (d_l_next ) ds q := ⟨_, fun _ _ => Iff.rfl⟩
noncomputable def c_l_next  : Fn PyData := Classical.choose (x_l_next )
theorem u_l_next  {ds : List PyData} {q : PyData → Prop} (h : fnc 3 (d_l_next ) ds q) : c_l_next  ds q := (Classical.choose_spec (x_l_next ) ds q).mpr h
theorem v_l_next  {ds : List PyData} {q : PyData → Prop} (h : c_l_next  ds q) : fnc 3 (d_l_next ) ds q := (Classical.choose_spec (x_l_next ) ds q).mp h

/-! slots of p_rule_of: ['machine', 'room', 'sign'] -/
abbrev d_p_rule_of : DS PyData :=
  (dRet (d2 fIx (d2 fIx (dV 0) (dC (.int 2))) (d2 fAdd (d2 fMul (dVU 1) (d2 fIx (dV 0) (dC (.int 1)))) (dVU 2))))
theorem x_p_rule_of  : ∃ c : Fn PyData, ∀ ds q, c ds q ↔ fnc 0 (d_p_rule_of ) ds q := ⟨_, fun _ _ => Iff.rfl⟩
noncomputable def c_p_rule_of  : Fn PyData := Classical.choose (x_p_rule_of )
theorem u_p_rule_of  {ds : List PyData} {q : PyData → Prop} (h : fnc 0 (d_p_rule_of ) ds q) : c_p_rule_of  ds q := (Classical.choose_spec (x_p_rule_of ) ds q).mpr h
theorem v_p_rule_of  {ds : List PyData} {q : PyData → Prop} (h : c_p_rule_of  ds q) : fnc 0 (d_p_rule_of ) ds q := (Classical.choose_spec (x_p_rule_of ) ds q).mp h

/-! slots of p_parted: ['row'] -/
abbrev d_p_parted : DS PyData :=
  (dSeq (dIf (dB (d2 fEq (dF fLen (dCons (dVU 0) dNil)) (dC (.int 0)))) (dRet (dTup (dCons (dC (.int 0)) (dCons (dTup dNil) dNil)))) dNext)
    (dRet (dTup (dCons (d2 fIx (dV 0) (dC (.int 0))) (dCons (dSlT (dV 0) (dSo (dC (.int 1))) dNo) dNil)))))
theorem x_p_parted  : ∃ c : Fn PyData, ∀ ds q, c ds q ↔ fnc 0 (d_p_parted ) ds q := ⟨_, fun _ _ => Iff.rfl⟩
noncomputable def c_p_parted  : Fn PyData := Classical.choose (x_p_parted )
theorem u_p_parted  {ds : List PyData} {q : PyData → Prop} (h : fnc 0 (d_p_parted ) ds q) : c_p_parted  ds q := (Classical.choose_spec (x_p_parted ) ds q).mpr h
theorem v_p_parted  {ds : List PyData} {q : PyData → Prop} (h : c_p_parted  ds q) : fnc 0 (d_p_parted ) ds q := (Classical.choose_spec (x_p_parted ) ds q).mp h

/-! slots of p_trimmed: ['row', 'found'] -/
abbrev d_p_trimmed : DS PyData :=
  (dSeq (dSetO 1 (dAsT (dV 0)))
    (dSeq (dWhile (dAnd (dB (d2 fGt (dF fLen (dCons (dVU 1) dNil)) (dC (.int 0)))) (dB (d2 fEq (dIxL (dVM 1) (d1 fNeg (dC (.int 1)))) (dC (.int 0))))) (dPop 1))
    (dRet (dMkT (dVM 1)))))
theorem x_p_trimmed  : ∃ c : Fn PyData, ∀ ds q, c ds q ↔ fnc 1 (d_p_trimmed ) ds q := ⟨_, fun _ _ => Iff.rfl⟩
noncomputable def c_p_trimmed  : Fn PyData := Classical.choose (x_p_trimmed )
theorem u_p_trimmed  {ds : List PyData} {q : PyData → Prop} (h : fnc 1 (d_p_trimmed ) ds q) : c_p_trimmed  ds q := (Classical.choose_spec (x_p_trimmed ) ds q).mpr h
theorem v_p_trimmed  {ds : List PyData} {q : PyData → Prop} (h : c_p_trimmed  ds q) : fnc 1 (d_p_trimmed ) ds q := (Classical.choose_spec (x_p_trimmed ) ds q).mp h

/-! slots of p_stepped: ['machine', 'stand', 'rule', 'near'] -/
abbrev d_p_stepped : DS PyData :=
  (dSeq (dSet 2 (dF c_p_rule_of (dCons (dV 0) (dCons (d2 fIx (dV 1) (dC (.int 0))) (dCons (d2 fIx (dV 1) (dC (.int 2))) dNil)))))
    (dSeq (dIf (dB (d2 fIsN (dVU 2) (dC .none))) (dRet (dC .none)) dNext)
    (dSeq (dIf (dB (d2 fEq (d2 fIx (dV 2) (dC (.int 1))) (dC (.int 0)))) (dSeq (dSet 3 (dF c_p_parted (dCons (d2 fIx (dV 1) (dC (.int 1))) dNil)))
    (dRet (dTup (dCons (d2 fIx (dV 2) (dC (.int 2))) (dCons (d2 fIx (dV 3) (dC (.int 1))) (dCons (d2 fIx (dV 3) (dC (.int 0))) (dCons (dF c_p_trimmed (dCons (dCatT (dTup (dCons (d2 fIx (dV 2) (dC (.int 0))) dNil)) (d2 fIx (dV 1) (dC (.int 3)))) dNil)) dNil))))))) dNext)
    (dSeq (dSet 3 (dF c_p_parted (dCons (d2 fIx (dV 1) (dC (.int 3))) dNil)))
    (dRet (dTup (dCons (d2 fIx (dV 2) (dC (.int 2))) (dCons (dF c_p_trimmed (dCons (dCatT (dTup (dCons (d2 fIx (dV 2) (dC (.int 0))) dNil)) (d2 fIx (dV 1) (dC (.int 1)))) dNil)) (dCons (d2 fIx (dV 3) (dC (.int 0))) (dCons (d2 fIx (dV 3) (dC (.int 1))) dNil))))))))))
theorem x_p_stepped  : ∃ c : Fn PyData, ∀ ds q, c ds q ↔ fnc 2 (d_p_stepped ) ds q := ⟨_, fun _ _ => Iff.rfl⟩
noncomputable def c_p_stepped  : Fn PyData := Classical.choose (x_p_stepped )
theorem u_p_stepped  {ds : List PyData} {q : PyData → Prop} (h : fnc 2 (d_p_stepped ) ds q) : c_p_stepped  ds q := (Classical.choose_spec (x_p_stepped ) ds q).mpr h
theorem v_p_stepped  {ds : List PyData} {q : PyData → Prop} (h : c_p_stepped  ds q) : fnc 2 (d_p_stepped ) ds q := (Classical.choose_spec (x_p_stepped ) ds q).mp h

/-! slots of l_same: ['found', 'due', 'k'] -/
abbrev d_l_same (c_self : Fn PyData) : DS PyData :=
  (dSeq (dIf (dB (d1 (fIsi isTup) (dVU 1))) (dSeq (dIf (dOr (dNot (dB (d1 (fIsi isTup) (dVU 0)))) (dB (d2 fNe (dF fLen (dCons (dVU 0) dNil)) (dF fLen (dCons (dVU 1) dNil))))) (dRet (dC (.bool false))) dNext)
    (dRet (dF fAll (dCons (dAsD (dLc (dRng1 (dF fLen (dCons (dVU 1) dNil))) 2 dTrue (dF c_self (dCons (d2 fIx (dV 0) (dVU 2)) (dCons (d2 fIx (dV 1) (dVU 2)) dNil))))) dNil)))) dNext)
    (dSeq (dIf (dOr (dB (d2 fIsN (dVU 1) (dC .none))) (dB (d1 (fIsi isStr) (dVU 1)))) (dRet (d2 fEq (dVU 0) (dVU 1))) dNext)
    (dRet (dAndV (dF c_l_whole (dCons (dV 0) dNil)) (d2 fEq (dVU 0) (dVU 1))))))
theorem x_l_same (c_self : Fn PyData) : ∃ c : Fn PyData, ∀ ds q, c ds q ↔ fnc 1 (d_l_same c_self) ds q := ⟨_, fun _ _ => Iff.rfl⟩
noncomputable def c_l_same (c_self : Fn PyData) : Fn PyData := Classical.choose (x_l_same c_self)
theorem u_l_same {c_self : Fn PyData} {ds : List PyData} {q : PyData → Prop} (h : fnc 1 (d_l_same c_self) ds q) : c_l_same c_self ds q := (Classical.choose_spec (x_l_same c_self) ds q).mpr h
theorem v_l_same {c_self : Fn PyData} {ds : List PyData} {q : PyData → Prop} (h : c_l_same c_self ds q) : fnc 1 (d_l_same c_self) ds q := (Classical.choose_spec (x_l_same c_self) ds q).mp h

/-! slots of law_k03: ['script', 'machine', 'most', 'stand', 'due', 'found'] -/
abbrev d_law_k03 : DS PyData :=
  (dSeq (dSet 1 (dF c_l_machine (dCons (dV 0) (dCons (dC (.int 3)) (dCons (d2 fAdd (dC (.int 1)) (d2 fMod (dF c_l_cell_at (dCons (dV 0) (dCons (dC (.int 0)) dNil))) (dC (.int 6)))) (dCons (d2 fAdd (dC (.int 2)) (d2 fMod (d2 fDiv (dF c_l_cell_at (dCons (dV 0) (dCons (dC (.int 0)) dNil))) (dC (.int 6))) (dC (.int 3)))) dNil))))))
    (dSeq (dSet 2 (dIxL (dCons (dC (.int 8)) (dCons (dC (.int 64)) (dCons (dC (.int 4096)) dNil))) (d2 fMod (dF c_l_cell_at (dCons (dV 0) (dCons (dC (.int 2)) dNil))) (dC (.int 3)))))
    (dSeq (dSet 3 (dF c_l_stand (dCons (dV 1) (dCons (dF c_l_cell_at (dCons (dV 0) (dCons (dC (.int 1)) dNil))) (dCons (dF c_l_pick (dCons (dV 0) (dCons (dC (.int 40)) dNil))) (dCons (dV 2) dNil))))))
    (dSeq (dSet 4 (dF c_l_next (dCons (dV 1) (dCons (dV 3) dNil))))
    (dSeq (dSet 5 (dF c_p_stepped (dCons (dV 1) (dCons (dV 3) dNil))))
    (dSeq (dIf (dB (d2 fIsN (dVU 4) (dC .none))) (dRet (d2 fIsN (dVU 5) (dC .none))) dNext)
    (dRet (dF (c_same 4) (dCons (dV 5) (dCons (dV 4) dNil))))))))))
theorem x_law_k03  : ∃ c : Fn PyData, ∀ ds q, c ds q ↔ fnc 5 (d_law_k03 ) ds q := ⟨_, fun _ _ => Iff.rfl⟩
noncomputable def c_law_k03  : Fn PyData := Classical.choose (x_law_k03 )
theorem u_law_k03  {ds : List PyData} {q : PyData → Prop} (h : fnc 5 (d_law_k03 ) ds q) : c_law_k03  ds q := (Classical.choose_spec (x_law_k03 ) ds q).mpr h
theorem v_law_k03  {ds : List PyData} {q : PyData → Prop} (h : c_law_k03  ds q) : fnc 5 (d_law_k03 ) ds q := (Classical.choose_spec (x_law_k03 ) ds q).mp h

/-! slots of p_row_of_number: ['number', 'signs', 'found'] -/
abbrev d_p_row_of_number : DS PyData :=
  (dSeq (dSetO 2 dNil)
    (dSeq (dWhile (dB (d2 fGt (dVU 0) (dC (.int 0)))) (dSeq (dApp 2 (d2 fMod (dVU 0) (dVU 1)))
    (dSet 0 (d2 fDiv (dVU 0) (dVU 1)))))
    (dRet (dMkT (dVM 2)))))
theorem x_p_row_of_number  : ∃ c : Fn PyData, ∀ ds q, c ds q ↔ fnc 1 (d_p_row_of_number ) ds q := ⟨_, fun _ _ => Iff.rfl⟩
noncomputable def c_p_row_of_number  : Fn PyData := Classical.choose (x_p_row_of_number )
theorem u_p_row_of_number  {ds : List PyData} {q : PyData → Prop} (h : fnc 1 (d_p_row_of_number ) ds q) : c_p_row_of_number  ds q := (Classical.choose_spec (x_p_row_of_number ) ds q).mpr h
theorem v_p_row_of_number  {ds : List PyData} {q : PyData → Prop} (h : c_p_row_of_number  ds q) : fnc 1 (d_p_row_of_number ) ds q := (Classical.choose_spec (x_p_row_of_number ) ds q).mp h

/-! slots of p_unpiled: ['machine', 'pile', 'signs'] -/
abbrev d_p_unpiled : DS PyData :=
  (dSeq (dSet 2 (d2 fIx (dV 0) (dC (.int 1))))
    (dRet (dTup (dCons (d2 fIx (dV 1) (dC (.int 0))) (dCons (dF c_p_row_of_number (dCons (d2 fIx (dV 1) (dC (.int 2))) (dCons (dV 2) dNil))) (dCons (d2 fIx (dV 1) (dC (.int 1))) (dCons (dF c_p_row_of_number (dCons (d2 fIx (dV 1) (dC (.int 3))) (dCons (dV 2) dNil))) dNil)))))))
theorem x_p_unpiled  : ∃ c : Fn PyData, ∀ ds q, c ds q ↔ fnc 1 (d_p_unpiled ) ds q := ⟨_, fun _ _ => Iff.rfl⟩
noncomputable def c_p_unpiled  : Fn PyData := Classical.choose (x_p_unpiled )
theorem u_p_unpiled  {ds : List PyData} {q : PyData → Prop} (h : fnc 1 (d_p_unpiled ) ds q) : c_p_unpiled  ds q := (Classical.choose_spec (x_p_unpiled ) ds q).mpr h
theorem v_p_unpiled  {ds : List PyData} {q : PyData → Prop} (h : c_p_unpiled  ds q) : fnc 1 (d_p_unpiled ) ds q := (Classical.choose_spec (x_p_unpiled ) ds q).mp h

/-! slots of p_number_of_row: ['row', 'signs', 'found', 'sign'] -/
abbrev d_p_number_of_row : DS PyData :=
  (dSeq (dSet 2 (dC (.int 0)))
    (dSeq (dFor (dRev (dV 0)) 3 (dSet 2 (d2 fAdd (d2 fMul (dVU 2) (dVU 1)) (dVU 3))))
    (dRet (dV 2))))
theorem x_p_number_of_row  : ∃ c : Fn PyData, ∀ ds q, c ds q ↔ fnc 2 (d_p_number_of_row ) ds q := ⟨_, fun _ _ => Iff.rfl⟩
noncomputable def c_p_number_of_row  : Fn PyData := Classical.choose (x_p_number_of_row )
theorem u_p_number_of_row  {ds : List PyData} {q : PyData → Prop} (h : fnc 2 (d_p_number_of_row ) ds q) : c_p_number_of_row  ds q := (Classical.choose_spec (x_p_number_of_row ) ds q).mpr h
theorem v_p_number_of_row  {ds : List PyData} {q : PyData → Prop} (h : c_p_number_of_row  ds q) : fnc 2 (d_p_number_of_row ) ds q := (Classical.choose_spec (x_p_number_of_row ) ds q).mp h

/-! slots of p_piled: ['machine', 'stand', 'signs'] -/
abbrev d_p_piled : DS PyData :=
  (dSeq (dSet 2 (d2 fIx (dV 0) (dC (.int 1))))
    (dRet (dTup (dCons (d2 fIx (dV 1) (dC (.int 0))) (dCons (d2 fIx (dV 1) (dC (.int 2))) (dCons (dF c_p_number_of_row (dCons (d2 fIx (dV 1) (dC (.int 1))) (dCons (dV 2) dNil))) (dCons (dF c_p_number_of_row (dCons (d2 fIx (dV 1) (dC (.int 3))) (dCons (dV 2) dNil))) dNil)))))))
theorem x_p_piled  : ∃ c : Fn PyData, ∀ ds q, c ds q ↔ fnc 1 (d_p_piled ) ds q := ⟨_, fun _ _ => Iff.rfl⟩
noncomputable def c_p_piled  : Fn PyData := Classical.choose (x_p_piled )
theorem u_p_piled  {ds : List PyData} {q : PyData → Prop} (h : fnc 1 (d_p_piled ) ds q) : c_p_piled  ds q := (Classical.choose_spec (x_p_piled ) ds q).mpr h
theorem v_p_piled  {ds : List PyData} {q : PyData → Prop} (h : c_p_piled  ds q) : fnc 1 (d_p_piled ) ds q := (Classical.choose_spec (x_p_piled ) ds q).mp h

/-! slots of law_k05: ['script', 'machine', 'signs', 'most', 'stand', 'pile', 'number', 'second', 'top', 'other', 'due'] -/
abbrev d_law_k05 : DS PyData :=
  (dSeq (dSet 1 (dF c_l_machine (dCons (dV 0) (dCons (dC (.int 4)) (dCons (d2 fAdd (dC (.int 1)) (d2 fMod (dF c_l_cell_at (dCons (dV 0) (dCons (dC (.int 0)) dNil))) (dC (.int 6)))) (dCons (d2 fAdd (dC (.int 2)) (d2 fMod (d2 fDiv (dF c_l_cell_at (dCons (dV 0) (dCons (dC (.int 0)) dNil))) (dC (.int 6))) (dC (.int 3)))) dNil))))))
    (dSeq (dSet 2 (d2 fIx (dV 1) (dC (.int 1))))
    (dSeq (dSet 3 (dIxL (dCons (dC (.int 4)) (dCons (dC (.int 64)) (dCons (dC (.int 4096)) dNil))) (d2 fMod (dF c_l_cell_at (dCons (dV 0) (dCons (dC (.int 2)) dNil))) (dC (.int 3)))))
    (dSeq (dSet 4 (dF c_l_stand (dCons (dV 1) (dCons (dF c_l_cell_at (dCons (dV 0) (dCons (dC (.int 1)) dNil))) (dCons (dF c_l_pick (dCons (dV 0) (dCons (dC (.int 40)) dNil))) (dCons (dV 3) dNil))))))
    (dSeq (dSet 5 (dTup (dCons (d2 fIx (dV 4) (dC (.int 0))) (dCons (d2 fIx (dV 4) (dC (.int 2))) (dCons (dF c_l_number (dCons (d2 fIx (dV 4) (dC (.int 1))) (dCons (dV 2) dNil))) (dCons (dF c_l_number (dCons (d2 fIx (dV 4) (dC (.int 3))) (dCons (dV 2) dNil))) dNil))))))
    (dSeq (dIf (dOr (dNot (dB (dF (c_same 4) (dCons (dF c_p_piled (dCons (dV 1) (dCons (dV 4) dNil))) (dCons (dV 5) dNil))))) (dNot (dB (dF (c_same 4) (dCons (dF c_p_unpiled (dCons (dV 1) (dCons (dV 5) dNil))) (dCons (dV 4) dNil)))))) (dRet (dC (.bool false))) dNext)
    (dSeq (dSet 6 (dF c_l_mix (dCons (dF c_l_cell_at (dCons (dV 0) (dCons (dC (.int 3)) dNil))) (dCons (dC (.int 2)) dNil))))
    (dSeq (dSet 7 (d2 fMod (d2 fAdd (d2 fMul (dF c_l_cell_at (dCons (dV 0) (dCons (dC (.int 3)) dNil))) (dC (.int 69621))) (dC (.int 13))) (dC (.int 2147483629))))
    (dSeq (dSet 8 (dIxL (dCons (dC (.int 4096)) (dCons (dC (.int 531441)) (dCons (dC (.int 16000000)) dNil))) (d2 fSub (dVU 2) (dC (.int 2)))))
    (dSeq (dSet 9 (dTup (dCons (d2 fIx (dV 4) (dC (.int 0))) (dCons (d2 fIx (dV 4) (dC (.int 2))) (dCons (d2 fMod (dVU 6) (dVU 8)) (dCons (d2 fMod (dVU 7) (dVU 8)) dNil))))))
    (dSeq (dSet 10 (dTup (dCons (d2 fIx (dV 4) (dC (.int 0))) (dCons (dF c_l_row (dCons (d2 fIx (dV 9) (dC (.int 2))) (dCons (dV 2) dNil))) (dCons (d2 fIx (dV 4) (dC (.int 2))) (dCons (dF c_l_row (dCons (d2 fIx (dV 9) (dC (.int 3))) (dCons (dV 2) dNil))) dNil))))))
    (dRet (dAndV (dF (c_same 4) (dCons (dF c_p_unpiled (dCons (dV 1) (dCons (dV 9) dNil))) (dCons (dV 10) dNil))) (dF (c_same 4) (dCons (dF c_p_piled (dCons (dV 1) (dCons (dV 10) dNil))) (dCons (dV 9) dNil))))))))))))))))
theorem x_law_k05  : ∃ c : Fn PyData, ∀ ds q, c ds q ↔ fnc 10 (d_law_k05 ) ds q := ⟨_, fun _ _ => Iff.rfl⟩
noncomputable def c_law_k05  : Fn PyData := Classical.choose (x_law_k05 )
theorem u_law_k05  {ds : List PyData} {q : PyData → Prop} (h : fnc 10 (d_law_k05 ) ds q) : c_law_k05  ds q := (Classical.choose_spec (x_law_k05 ) ds q).mpr h
theorem v_law_k05  {ds : List PyData} {q : PyData → Prop} (h : c_law_k05  ds q) : fnc 10 (d_law_k05 ) ds q := (Classical.choose_spec (x_law_k05 ) ds q).mp h

/-! slots of p_pile_stepped: ['machine', 'pile', 'signs', 'rule'] -/
abbrev d_p_pile_stepped : DS PyData :=
  (dSeq (dSet 2 (d2 fIx (dV 0) (dC (.int 1))))
    (dSeq (dSet 3 (dF c_p_rule_of (dCons (dV 0) (dCons (d2 fIx (dV 1) (dC (.int 0))) (dCons (d2 fIx (dV 1) (dC (.int 1))) dNil)))))
    (dSeq (dIf (dB (d2 fIsN (dVU 3) (dC .none))) (dRet (dC .none)) dNext)
    (dSeq (dIf (dB (d2 fEq (d2 fIx (dV 3) (dC (.int 1))) (dC (.int 0)))) (dRet (dTup (dCons (d2 fIx (dV 3) (dC (.int 2))) (dCons (d2 fMod (d2 fIx (dV 1) (dC (.int 2))) (dVU 2)) (dCons (d2 fDiv (d2 fIx (dV 1) (dC (.int 2))) (dVU 2)) (dCons (d2 fAdd (d2 fMul (d2 fIx (dV 1) (dC (.int 3))) (dVU 2)) (d2 fIx (dV 3) (dC (.int 0)))) dNil)))))) dNext)
    (dRet (dTup (dCons (d2 fIx (dV 3) (dC (.int 2))) (dCons (d2 fMod (d2 fIx (dV 1) (dC (.int 3))) (dVU 2)) (dCons (d2 fAdd (d2 fMul (d2 fIx (dV 1) (dC (.int 2))) (dVU 2)) (d2 fIx (dV 3) (dC (.int 0)))) (dCons (d2 fDiv (d2 fIx (dV 1) (dC (.int 3))) (dVU 2)) dNil))))))))))
theorem x_p_pile_stepped  : ∃ c : Fn PyData, ∀ ds q, c ds q ↔ fnc 2 (d_p_pile_stepped ) ds q := ⟨_, fun _ _ => Iff.rfl⟩
noncomputable def c_p_pile_stepped  : Fn PyData := Classical.choose (x_p_pile_stepped )
theorem u_p_pile_stepped  {ds : List PyData} {q : PyData → Prop} (h : fnc 2 (d_p_pile_stepped ) ds q) : c_p_pile_stepped  ds q := (Classical.choose_spec (x_p_pile_stepped ) ds q).mpr h
theorem v_p_pile_stepped  {ds : List PyData} {q : PyData → Prop} (h : c_p_pile_stepped  ds q) : fnc 2 (d_p_pile_stepped ) ds q := (Classical.choose_spec (x_p_pile_stepped ) ds q).mp h

/-! slots of law_k06: ['script', 'machine', 'signs', 'most', 'stand', 'pile', 'after', 'due'] -/
abbrev d_law_k06 : DS PyData :=
  (dSeq (dSet 1 (dF c_l_machine (dCons (dV 0) (dCons (dC (.int 3)) (dCons (d2 fAdd (dC (.int 1)) (d2 fMod (dF c_l_cell_at (dCons (dV 0) (dCons (dC (.int 0)) dNil))) (dC (.int 6)))) (dCons (d2 fAdd (dC (.int 2)) (d2 fMod (d2 fDiv (dF c_l_cell_at (dCons (dV 0) (dCons (dC (.int 0)) dNil))) (dC (.int 6))) (dC (.int 3)))) dNil))))))
    (dSeq (dSet 2 (d2 fIx (dV 1) (dC (.int 1))))
    (dSeq (dSet 3 (dIxL (dCons (dC (.int 4)) (dCons (dC (.int 64)) (dCons (dC (.int 2048)) dNil))) (d2 fMod (dF c_l_cell_at (dCons (dV 0) (dCons (dC (.int 2)) dNil))) (dC (.int 3)))))
    (dSeq (dSet 4 (dF c_l_stand (dCons (dV 1) (dCons (dF c_l_cell_at (dCons (dV 0) (dCons (dC (.int 1)) dNil))) (dCons (dF c_l_pick (dCons (dV 0) (dCons (dC (.int 40)) dNil))) (dCons (dV 3) dNil))))))
    (dSeq (dSet 5 (dTup (dCons (d2 fIx (dV 4) (dC (.int 0))) (dCons (d2 fIx (dV 4) (dC (.int 2))) (dCons (dF c_l_number (dCons (d2 fIx (dV 4) (dC (.int 1))) (dCons (dV 2) dNil))) (dCons (dF c_l_number (dCons (d2 fIx (dV 4) (dC (.int 3))) (dCons (dV 2) dNil))) dNil))))))
    (dSeq (dSet 6 (dF c_l_next (dCons (dV 1) (dCons (dV 4) dNil))))
    (dSeq (dIf (dB (d2 fIsN (dVU 6) (dC .none))) (dRet (dAndV (d2 fIsN (dF c_p_pile_stepped (dCons (dV 1) (dCons (dV 5) dNil))) (dC .none)) (d2 fIsN (dF c_p_stepped (dCons (dV 1) (dCons (dV 4) dNil))) (dC .none)))) dNext)
    (dSeq (dSet 7 (dTup (dCons (d2 fIx (dV 6) (dC (.int 0))) (dCons (d2 fIx (dV 6) (dC (.int 2))) (dCons (dF c_l_number (dCons (d2 fIx (dV 6) (dC (.int 1))) (dCons (dV 2) dNil))) (dCons (dF c_l_number (dCons (d2 fIx (dV 6) (dC (.int 3))) (dCons (dV 2) dNil))) dNil))))))
    (dRet (dAndV (dF (c_same 4) (dCons (dF c_p_pile_stepped (dCons (dV 1) (dCons (dV 5) dNil))) (dCons (dV 7) dNil))) (dF (c_same 4) (dCons (dF c_p_piled (dCons (dV 1) (dCons (dF c_p_stepped (dCons (dV 1) (dCons (dV 4) dNil))) dNil))) (dCons (dV 7) dNil)))))))))))))
theorem x_law_k06  : ∃ c : Fn PyData, ∀ ds q, c ds q ↔ fnc 7 (d_law_k06 ) ds q := ⟨_, fun _ _ => Iff.rfl⟩
noncomputable def c_law_k06  : Fn PyData := Classical.choose (x_law_k06 )
theorem u_law_k06  {ds : List PyData} {q : PyData → Prop} (h : fnc 7 (d_law_k06 ) ds q) : c_law_k06  ds q := (Classical.choose_spec (x_law_k06 ) ds q).mpr h
theorem v_law_k06  {ds : List PyData} {q : PyData → Prop} (h : c_law_k06  ds q) : fnc 7 (d_law_k06 ) ds q := (Classical.choose_spec (x_law_k06 ) ds q).mp h

/-! slots of p_shown: ['machine', 'found', 'rule'] -/
abbrev d_p_shown : DS PyData :=
  (dSeq (dSet 1 (d2 fAdd (d2 fAdd (d2 fAdd (dF fStr1 (dCons (d2 fIx (dV 0) (dC (.int 0))) dNil)) (dC (.str " "))) (dF fStr1 (dCons (d2 fIx (dV 0) (dC (.int 1))) dNil))) (dC (.str ":"))))
    (dSeq (dFor (dAsT (d2 fIx (dV 0) (dC (.int 2)))) 2 (dIf (dB (d2 fIsN (dVU 2) (dC .none))) (dSet 1 (d2 fAdd (dVU 1) (dC (.str " -")))) (dSet 1 (d2 fAdd (d2 fAdd (d2 fAdd (d2 fAdd (dVU 1) (dC (.str " "))) (dF fStr1 (dCons (d2 fIx (dV 2) (dC (.int 0))) dNil))) (d2 fIx (dC (.str "<>")) (d2 fIx (dV 2) (dC (.int 1))))) (dF fStr1 (dCons (d2 fIx (dV 2) (dC (.int 2))) dNil))))))
    (dRet (dV 1))))
theorem x_p_shown  : ∃ c : Fn PyData, ∀ ds q, c ds q ↔ fnc 2 (d_p_shown ) ds q := ⟨_, fun _ _ => Iff.rfl⟩
noncomputable def c_p_shown  : Fn PyData := Classical.choose (x_p_shown )
theorem u_p_shown  {ds : List PyData} {q : PyData → Prop} (h : fnc 2 (d_p_shown ) ds q) : c_p_shown  ds q := (Classical.choose_spec (x_p_shown ) ds q).mpr h
theorem v_p_shown  {ds : List PyData} {q : PyData → Prop} (h : c_p_shown  ds q) : fnc 2 (d_p_shown ) ds q := (Classical.choose_spec (x_p_shown ) ds q).mp h

/-! slots of p_figure: ['sign'] -/
abbrev d_p_figure : DS PyData :=
  (dSeq (dIf (dOr (dB (d2 fNe (dF fLen (dCons (dVU 0) dNil)) (dC (.int 1)))) (dB (d2 fNotInS (dVU 0) (dC (.str "0123456789"))))) dNever dNext)
    (dRet (dFind (dC (.str "0123456789")) (dVU 0))))
theorem x_p_figure  : ∃ c : Fn PyData, ∀ ds q, c ds q ↔ fnc 0 (d_p_figure ) ds q := ⟨_, fun _ _ => Iff.rfl⟩
noncomputable def c_p_figure  : Fn PyData := Classical.choose (x_p_figure )
theorem u_p_figure  {ds : List PyData} {q : PyData → Prop} (h : fnc 0 (d_p_figure ) ds q) : c_p_figure  ds q := (Classical.choose_spec (x_p_figure ) ds q).mpr h
theorem v_p_figure  {ds : List PyData} {q : PyData → Prop} (h : c_p_figure  ds q) : fnc 0 (d_p_figure ) ds q := (Classical.choose_spec (x_p_figure ) ds q).mp h

/-! slots of p_rule_read: ['word'] -/
abbrev d_p_rule_read : DS PyData :=
  (dSeq (dIf (dB (d2 fEq (dVU 0) (dC (.str "-")))) (dRet (dC .none)) dNext)
    (dSeq (dIf (dOr (dB (d2 fNe (dF fLen (dCons (dVU 0) dNil)) (dC (.int 3)))) (dB (d2 fNotInS (d2 fIx (dV 0) (dC (.int 1))) (dC (.str "<>"))))) dNever dNext)
    (dRet (dTup (dCons (dF c_p_figure (dCons (d2 fIx (dV 0) (dC (.int 0))) dNil)) (dCons (dFind (dC (.str "<>")) (d2 fIx (dV 0) (dC (.int 1)))) (dCons (dF c_p_figure (dCons (d2 fIx (dV 0) (dC (.int 2))) dNil)) dNil)))))))
theorem x_p_rule_read  : ∃ c : Fn PyData, ∀ ds q, c ds q ↔ fnc 0 (d_p_rule_read ) ds q := ⟨_, fun _ _ => Iff.rfl⟩
noncomputable def c_p_rule_read  : Fn PyData := Classical.choose (x_p_rule_read )
theorem u_p_rule_read  {ds : List PyData} {q : PyData → Prop} (h : fnc 0 (d_p_rule_read ) ds q) : c_p_rule_read  ds q := (Classical.choose_spec (x_p_rule_read ) ds q).mpr h
theorem v_p_rule_read  {ds : List PyData} {q : PyData → Prop} (h : c_p_rule_read  ds q) : fnc 0 (d_p_rule_read ) ds q := (Classical.choose_spec (x_p_rule_read ) ds q).mp h

/-! slots of p_read: ['text', 'words', 'machine', 'good', 'word'] -/
abbrev d_p_read : DS PyData :=
  (dSeq (dSet 1 (dAsD (dSplit (dVU 0) (dC (.str " ")))))
    (dSeq (dIf (dOr (dB (d2 fLt (dF fLen (dCons (dVU 1) dNil)) (dC (.int 2)))) (dOr (dB (d2 fNe (dF fLen (dCons (d2 fIx (dV 1) (dC (.int 1))) dNil)) (dC (.int 2)))) (dB (d2 fNe (d2 fIx (d2 fIx (dV 1) (dC (.int 1))) (dC (.int 1))) (dC (.str ":")))))) dNever dNext)
    (dSeq (dSet 2 (dTup (dCons (dF c_p_figure (dCons (d2 fIx (dV 1) (dC (.int 0))) dNil)) (dCons (dF c_p_figure (dCons (d2 fIx (d2 fIx (dV 1) (dC (.int 1))) (dC (.int 0))) dNil)) (dCons (dMkT (dLc (dAsL (dAsD (dSlL (dAsL (dV 1)) (dSo (dC (.int 2))) dNo))) 4 dTrue (dF c_p_rule_read (dCons (dV 4) dNil)))) dNil)))))
    (dSeq (dSet 3 (dC (.bool true)))
    (dSeq (dExpr (dF c_p_looked (dCons (dV 2) dNil)))
    (dSeq (dIf (dNot (dB (dVU 3))) dNever dNext)
    (dRet (dV 2))))))))
theorem x_p_read  : ∃ c : Fn PyData, ∀ ds q, c ds q ↔ fnc 4 (d_p_read ) ds q := ⟨_, fun _ _ => Iff.rfl⟩
noncomputable def c_p_read  : Fn PyData := Classical.choose (x_p_read )
theorem u_p_read  {ds : List PyData} {q : PyData → Prop} (h : fnc 4 (d_p_read ) ds q) : c_p_read  ds q := (Classical.choose_spec (x_p_read ) ds q).mpr h
theorem v_p_read  {ds : List PyData} {q : PyData → Prop} (h : c_p_read  ds q) : fnc 4 (d_p_read ) ds q := (Classical.choose_spec (x_p_read ) ds q).mp h

/-! slots of law_k18: ['script', 'machine', 'due', 'rule', 'word', 'found'] -/
abbrev d_law_k18 : DS PyData :=
  (dSeq (dSet 1 (dF c_l_machine (dCons (dV 0) (dCons (dC (.int 1)) (dCons (d2 fAdd (dC (.int 1)) (d2 fMod (dF c_l_cell_at (dCons (dV 0) (dCons (dC (.int 0)) dNil))) (dC (.int 6)))) (dCons (d2 fAdd (dC (.int 2)) (d2 fMod (d2 fDiv (dF c_l_cell_at (dCons (dV 0) (dCons (dC (.int 0)) dNil))) (dC (.int 6))) (dC (.int 3)))) dNil))))))
    (dSeq (dSet 2 (d2 fAdd (d2 fAdd (d2 fAdd (dF fStr1 (dCons (d2 fIx (dV 1) (dC (.int 0))) dNil)) (dC (.str " "))) (dF fStr1 (dCons (d2 fIx (dV 1) (dC (.int 1))) dNil))) (dC (.str ":"))))
    (dSeq (dFor (dAsT (d2 fIx (dV 1) (dC (.int 2)))) 3 (dSeq (dSet 4 (dC (.str "-")))
    (dSeq (dIf (dB (d2 fNotN (dVU 3) (dC .none))) (dSet 4 (d2 fAdd (d2 fAdd (dF fStr1 (dCons (d2 fIx (dV 3) (dC (.int 0))) dNil)) (dIxL (dCons (dC (.str "<")) (dCons (dC (.str ">")) dNil)) (d2 fIx (dV 3) (dC (.int 1))))) (dF fStr1 (dCons (d2 fIx (dV 3) (dC (.int 2))) dNil)))) dNext)
    (dSet 2 (d2 fAdd (d2 fAdd (dVU 2) (dC (.str " "))) (dVU 4))))))
    (dSeq (dSet 5 (dF c_p_shown (dCons (dV 1) dNil)))
    (dRet (dAndV (d1 (fIsi isStr) (dVU 5)) (dAndV (d2 fEq (dVU 5) (dVU 2)) (dF (c_same 4) (dCons (dF c_p_read (dCons (dV 2) dNil)) (dCons (dV 1) dNil))))))))))
theorem x_law_k18  : ∃ c : Fn PyData, ∀ ds q, c ds q ↔ fnc 5 (d_law_k18 ) ds q := ⟨_, fun _ _ => Iff.rfl⟩
noncomputable def c_law_k18  : Fn PyData := Classical.choose (x_law_k18 )
theorem u_law_k18  {ds : List PyData} {q : PyData → Prop} (h : fnc 5 (d_law_k18 ) ds q) : c_law_k18  ds q := (Classical.choose_spec (x_law_k18 ) ds q).mpr h
theorem v_law_k18  {ds : List PyData} {q : PyData → Prop} (h : c_law_k18  ds q) : fnc 5 (d_law_k18 ) ds q := (Classical.choose_spec (x_law_k18 ) ds q).mp h

/-! slots of l_text: ['machine', 'text', 'rule', 'word'] -/
abbrev d_l_text : DS PyData :=
  (dSeq (dSet 1 (d2 fAdd (d2 fAdd (d2 fAdd (dF fStr1 (dCons (d2 fIx (dV 0) (dC (.int 0))) dNil)) (dC (.str " "))) (dF fStr1 (dCons (d2 fIx (dV 0) (dC (.int 1))) dNil))) (dC (.str ":"))))
    (dSeq (dFor (dAsT (d2 fIx (dV 0) (dC (.int 2)))) 2 (dIf (dB (d2 fIsN (dVU 2) (dC .none))) (dSet 1 (d2 fAdd (dVU 1) (dC (.str " -")))) (dSeq (dSet 3 (d2 fAdd (d2 fAdd (dF fStr1 (dCons (d2 fIx (dV 2) (dC (.int 0))) dNil)) (d2 fIx (dC (.str "<>")) (d2 fIx (dV 2) (dC (.int 1))))) (dF fStr1 (dCons (d2 fIx (dV 2) (dC (.int 2))) dNil))))
    (dSet 1 (d2 fAdd (d2 fAdd (dVU 1) (dC (.str " "))) (dVU 3))))))
    (dRet (dV 1))))
theorem x_l_text  : ∃ c : Fn PyData, ∀ ds q, c ds q ↔ fnc 3 (d_l_text ) ds q := ⟨_, fun _ _ => Iff.rfl⟩
noncomputable def c_l_text  : Fn PyData := Classical.choose (x_l_text )
theorem u_l_text  {ds : List PyData} {q : PyData → Prop} (h : fnc 3 (d_l_text ) ds q) : c_l_text  ds q := (Classical.choose_spec (x_l_text ) ds q).mpr h
theorem v_l_text  {ds : List PyData} {q : PyData → Prop} (h : c_l_text  ds q) : fnc 3 (d_l_text ) ds q := (Classical.choose_spec (x_l_text ) ds q).mp h

/-! slots of l_figure: ['word'] -/
abbrev d_l_figure : DS PyData :=
  (dSeq (dIf (dAnd (dB (d2 fEq (dF fLen (dCons (dVU 0) dNil)) (dC (.int 1)))) (dB (d2 fInS (dVU 0) (dC (.str "0123456789"))))) (dRet (dFind (dC (.str "0123456789")) (dVU 0))) dNext)
    (dRet (d1 fNeg (dC (.int 1)))))
theorem x_l_figure  : ∃ c : Fn PyData, ∀ ds q, c ds q ↔ fnc 0 (d_l_figure ) ds q := ⟨_, fun _ _ => Iff.rfl⟩
noncomputable def c_l_figure  : Fn PyData := Classical.choose (x_l_figure )
theorem u_l_figure  {ds : List PyData} {q : PyData → Prop} (h : fnc 0 (d_l_figure ) ds q) : c_l_figure  ds q := (Classical.choose_spec (x_l_figure ) ds q).mpr h
theorem v_l_figure  {ds : List PyData} {q : PyData → Prop} (h : c_l_figure  ds q) : fnc 0 (d_l_figure ) ds q := (Classical.choose_spec (x_l_figure ) ds q).mp h

/-! slots of l_rule: ['word', 'rooms', 'signs', 'rule'] -/
abbrev d_l_rule : DS PyData :=
  (dSeq (dIf (dB (d2 fEq (dVU 0) (dC (.str "-")))) (dRet (dC .none)) dNext)
    (dSeq (dIf (dOr (dB (d2 fNe (dF fLen (dCons (dVU 0) dNil)) (dC (.int 3)))) (dB (d2 fNotInS (d2 fIx (dV 0) (dC (.int 1))) (dC (.str "<>"))))) (dRet (dTup dNil)) dNext)
    (dSeq (dSet 3 (dTup (dCons (dF c_l_figure (dCons (d2 fIx (dV 0) (dC (.int 0))) dNil)) (dCons (dFind (dC (.str "<>")) (d2 fIx (dV 0) (dC (.int 1)))) (dCons (dF c_l_figure (dCons (d2 fIx (dV 0) (dC (.int 2))) dNil)) dNil)))))
    (dSeq (dIf (dOr (dNot (dB (dChain fLe fLt (dC (.int 0)) (d2 fIx (dV 3) (dC (.int 0))) (dVU 2)))) (dNot (dB (dChain fLe fLt (dC (.int 0)) (d2 fIx (dV 3) (dC (.int 2))) (dVU 1))))) (dRet (dTup dNil)) dNext)
    (dRet (dV 3))))))
theorem x_l_rule  : ∃ c : Fn PyData, ∀ ds q, c ds q ↔ fnc 1 (d_l_rule ) ds q := ⟨_, fun _ _ => Iff.rfl⟩
noncomputable def c_l_rule  : Fn PyData := Classical.choose (x_l_rule )
theorem u_l_rule  {ds : List PyData} {q : PyData → Prop} (h : fnc 1 (d_l_rule ) ds q) : c_l_rule  ds q := (Classical.choose_spec (x_l_rule ) ds q).mpr h
theorem v_l_rule  {ds : List PyData} {q : PyData → Prop} (h : c_l_rule  ds q) : fnc 1 (d_l_rule ) ds q := (Classical.choose_spec (x_l_rule ) ds q).mp h

/-! slots of l_due: ['text', 'words', 'rooms', 'signs', 'rules', 'word'] -/
abbrev d_l_due : DS PyData :=
  (dSeq (dSet 1 (dAsD (dSplit (dVU 0) (dC (.str " ")))))
    (dSeq (dIf (dOr (dB (d2 fLt (dF fLen (dCons (dVU 1) dNil)) (dC (.int 2)))) (dOr (dB (d2 fNe (dF fLen (dCons (d2 fIx (dV 1) (dC (.int 1))) dNil)) (dC (.int 2)))) (dB (d2 fNe (d2 fIx (d2 fIx (dV 1) (dC (.int 1))) (dC (.int 1))) (dC (.str ":")))))) (dRet (dC .none)) dNext)
    (dSeq (dSet 2 (dF c_l_figure (dCons (d2 fIx (dV 1) (dC (.int 0))) dNil)))
    (dSeq (dSet 3 (dF c_l_figure (dCons (d2 fIx (d2 fIx (dV 1) (dC (.int 1))) (dC (.int 0))) dNil)))
    (dSeq (dIf (dOr (dNot (dB (dChain fLe fLe (dC (.int 1)) (dVU 2) (dC (.int 6))))) (dOr (dNot (dB (dChain fLe fLe (dC (.int 2)) (dVU 3) (dC (.int 4))))) (dB (d2 fNe (d2 fSub (dF fLen (dCons (dVU 1) dNil)) (dC (.int 2))) (d2 fMul (dVU 2) (dVU 3)))))) (dRet (dC .none)) dNext)
    (dSeq (dSet 4 (dMkT (dLc (dAsL (dAsD (dSlL (dAsL (dV 1)) (dSo (dC (.int 2))) dNo))) 5 dTrue (dF c_l_rule (dCons (dV 5) (dCons (dV 2) (dCons (dV 3) dNil)))))))
    (dSeq (dIf (dB (d2 fInT (dTup dNil) (dVU 4))) (dRet (dC .none)) dNext)
    (dRet (dTup (dCons (dV 2) (dCons (dV 3) (dCons (dV 4) dNil))))))))))))
theorem x_l_due  : ∃ c : Fn PyData, ∀ ds q, c ds q ↔ fnc 5 (d_l_due ) ds q := ⟨_, fun _ _ => Iff.rfl⟩
noncomputable def c_l_due  : Fn PyData := Classical.choose (x_l_due )
theorem u_l_due  {ds : List PyData} {q : PyData → Prop} (h : fnc 5 (d_l_due ) ds q) : c_l_due  ds q := (Classical.choose_spec (x_l_due ) ds q).mpr h
theorem v_l_due  {ds : List PyData} {q : PyData → Prop} (h : c_l_due  ds q) : fnc 5 (d_l_due ) ds q := (Classical.choose_spec (x_l_due ) ds q).mp h

abbrev dx_p_figure : DS PyData :=
  (dSeq (dIf (dOr (dB (d2 fNe (dF fLen (dCons (dVU 0) dNil)) (dC (.int 1)))) (dB (d2 fNotInS (dVU 0) (dC (.str "0123456789"))))) (dRaise "NoNote") dNext)
    (dRet (dFind (dC (.str "0123456789")) (dVU 0))))
theorem xx_p_figure : ∃ c : FnX PyData, ∀ ds q x, c ds q x ↔ fncX 0 dx_p_figure ds q x := ⟨_, fun _ _ _ => Iff.rfl⟩
noncomputable def cx_p_figure : FnX PyData := Classical.choose xx_p_figure
theorem ux_p_figure {ds : List PyData} {q : PyData → Prop} {x : Str → Prop} (h : fncX 0 dx_p_figure ds q x) : cx_p_figure ds q x := (Classical.choose_spec xx_p_figure ds q x).mpr h
theorem vx_p_figure {ds : List PyData} {q : PyData → Prop} {x : Str → Prop} (h : cx_p_figure ds q x) : fncX 0 dx_p_figure ds q x := (Classical.choose_spec xx_p_figure ds q x).mp h

abbrev dx_p_rule_read : DS PyData :=
  (dSeq (dIf (dB (d2 fEq (dVU 0) (dC (.str "-")))) (dRet (dC .none)) dNext)
    (dSeq (dIf (dOr (dB (d2 fNe (dF fLen (dCons (dVU 0) dNil)) (dC (.int 3)))) (dB (d2 fNotInS (d2 fIx (dV 0) (dC (.int 1))) (dC (.str "<>"))))) (dRaise "NoNote") dNext)
    (dRetX (dxTup (dxCons (dxCall cx_p_figure (dCons (d2 fIx (dV 0) (dC (.int 0))) dNil)) (dxCons (dxOf (dFind (dC (.str "<>")) (d2 fIx (dV 0) (dC (.int 1))))) (dxCons (dxCall cx_p_figure (dCons (d2 fIx (dV 0) (dC (.int 2))) dNil)) dxNil)))))))
theorem xx_p_rule_read : ∃ c : FnX PyData, ∀ ds q x, c ds q x ↔ fncX 0 dx_p_rule_read ds q x := ⟨_, fun _ _ _ => Iff.rfl⟩
noncomputable def cx_p_rule_read : FnX PyData := Classical.choose xx_p_rule_read
theorem ux_p_rule_read {ds : List PyData} {q : PyData → Prop} {x : Str → Prop} (h : fncX 0 dx_p_rule_read ds q x) : cx_p_rule_read ds q x := (Classical.choose_spec xx_p_rule_read ds q x).mpr h
theorem vx_p_rule_read {ds : List PyData} {q : PyData → Prop} {x : Str → Prop} (h : cx_p_rule_read ds q x) : fncX 0 dx_p_rule_read ds q x := (Classical.choose_spec xx_p_rule_read ds q x).mp h

abbrev dx_p_read : DS PyData :=
  (dSeq (dSet 1 (dAsD (dSplit (dVU 0) (dC (.str " ")))))
    (dSeq (dIf (dOr (dB (d2 fLt (dF fLen (dCons (dVU 1) dNil)) (dC (.int 2)))) (dOr (dB (d2 fNe (dF fLen (dCons (d2 fIx (dV 1) (dC (.int 1))) dNil)) (dC (.int 2)))) (dB (d2 fNe (d2 fIx (d2 fIx (dV 1) (dC (.int 1))) (dC (.int 1))) (dC (.str ":")))))) (dRaise "NoNote") dNext)
    (dSeq (dSetX 2 (dxTup (dxCons (dxCall cx_p_figure (dCons (d2 fIx (dV 1) (dC (.int 0))) dNil)) (dxCons (dxCall cx_p_figure (dCons (d2 fIx (d2 fIx (dV 1) (dC (.int 1))) (dC (.int 0))) dNil)) (dxCons (dxMkT (dLcX (dAsL (dAsD (dSlL (dAsL (dV 1)) (dSo (dC (.int 2))) dNo))) 4 (dxCall cx_p_rule_read (dCons (dV 4) dNil)))) dxNil)))))
    (dSeq (dSet 3 (dC (.bool true)))
    (dSeq (dTryX cx_p_looked 2 "NoMachine" (dSet 3 (dC (.bool false))))
    (dSeq (dIf (dNot (dB (dVU 3))) (dRaise "NoNote") dNext)
    (dRet (dV 2))))))))
theorem xx_p_read : ∃ c : FnX PyData, ∀ ds q x, c ds q x ↔ fncX 4 dx_p_read ds q x := ⟨_, fun _ _ _ => Iff.rfl⟩
noncomputable def cx_p_read : FnX PyData := Classical.choose xx_p_read
theorem ux_p_read {ds : List PyData} {q : PyData → Prop} {x : Str → Prop} (h : fncX 4 dx_p_read ds q x) : cx_p_read ds q x := (Classical.choose_spec xx_p_read ds q x).mpr h
theorem vx_p_read {ds : List PyData} {q : PyData → Prop} {x : Str → Prop} (h : cx_p_read ds q x) : fncX 4 dx_p_read ds q x := (Classical.choose_spec xx_p_read ds q x).mp h

theorem x_l_refused_k19 : ∃ c : Fn PyData, ∀ ds q, c ds q ↔ refused0 cx_p_read "NoNote" ds q := ⟨_, fun _ _ => Iff.rfl⟩
noncomputable def c_l_refused_k19 : Fn PyData := Classical.choose x_l_refused_k19
theorem u_l_refused_k19 {ds : List PyData} {q : PyData → Prop} (h : refused0 cx_p_read "NoNote" ds q) : c_l_refused_k19 ds q := (Classical.choose_spec x_l_refused_k19 ds q).mpr h
theorem v_l_refused_k19 {ds : List PyData} {q : PyData → Prop} (h : c_l_refused_k19 ds q) : refused0 cx_p_read "NoNote" ds q := (Classical.choose_spec x_l_refused_k19 ds q).mp h

/-! slots of l_worded: ['text', 'cell', 'other', 'words', 'odd', 'at'] -/
abbrev d_l_worded : DS PyData :=
  (dSeq (dSetO 3 (dSplit (dVU 0) (dC (.str " "))))
    (dSeq (dSet 4 (dAsD (dCons (dC (.str "")) (dCons (dC (.str "--")) (dCons (dC (.str "1")) (dCons (dC (.str "1>")) (dCons (dC (.str ">1")) (dCons (dC (.str "1>0>")) (dCons (dC (.str "1-0")) (dCons (dC (.str "01>0")) (dCons (dC (.str "1>00")) (dCons (dC (.str "a>0")) (dCons (dC (.str "1>a")) (dCons (dC (.str "+>0")) (dCons (dC (.str "1>_")) (dCons (dC (.str "4>0")) (dCons (dC (.str "1>6")) (dCons (dC (.str "9<9")) dNil))))))))))))))))))
    (dSeq (dSet 5 (d2 fAdd (dC (.int 2)) (d2 fMod (dVU 1) (d2 fSub (dF fLen (dCons (dVU 3) dNil)) (dC (.int 2))))))
    (dSeq (dPut 3 (dVU 5) (d2 fIx (dV 4) (d2 fMod (dVU 2) (dC (.int 16)))))
    (dRet (dJoin (dC (.str " ")) (dVU 3)))))))
theorem x_l_worded  : ∃ c : Fn PyData, ∀ ds q, c ds q ↔ fnc 3 (d_l_worded ) ds q := ⟨_, fun _ _ => Iff.rfl⟩
noncomputable def c_l_worded  : Fn PyData := Classical.choose (x_l_worded )
theorem u_l_worded  {ds : List PyData} {q : PyData → Prop} (h : fnc 3 (d_l_worded ) ds q) : c_l_worded  ds q := (Classical.choose_spec (x_l_worded ) ds q).mpr h
theorem v_l_worded  {ds : List PyData} {q : PyData → Prop} (h : c_l_worded  ds q) : fnc 3 (d_l_worded ) ds q := (Classical.choose_spec (x_l_worded ) ds q).mp h

/-! slots of l_odd: ['cell', 'some'] -/
abbrev d_l_odd : DS PyData :=
  (dSeq (dSetO 1 (dCons (dC (.str "")) (dCons (dC (.str " ")) (dCons (dC (.str ":")) (dCons (dC (.str "1 2")) (dCons (dC (.str "1 2:")) (dCons (dC (.str "1 2: - ")) (dCons (dC (.str "1 2: -  -")) (dCons (dC (.str "0 2:")) (dCons (dC (.str "7 2: - - - - - - - - - - - - - -")) (dCons (dC (.str "1 1: -")) dNil)))))))))))
    (dSeq (dSetO 1 (dCat (dVM 1) (dCons (dC (.str "01 2: - -")) (dCons (dC (.str "1 2: - - -")) dNil))))
    (dRet (dIxL (dVM 1) (d2 fMod (dVU 0) (dC (.int 12)))))))
theorem x_l_odd  : ∃ c : Fn PyData, ∀ ds q, c ds q ↔ fnc 1 (d_l_odd ) ds q := ⟨_, fun _ _ => Iff.rfl⟩
noncomputable def c_l_odd  : Fn PyData := Classical.choose (x_l_odd )
theorem u_l_odd  {ds : List PyData} {q : PyData → Prop} (h : fnc 1 (d_l_odd ) ds q) : c_l_odd  ds q := (Classical.choose_spec (x_l_odd ) ds q).mpr h
theorem v_l_odd  {ds : List PyData} {q : PyData → Prop} (h : c_l_odd  ds q) : fnc 1 (d_l_odd ) ds q := (Classical.choose_spec (x_l_odd ) ds q).mp h

/-! slots of law_k19: ['script', 'machine', 'text', 'way', 'at', 'put', 'due'] -/
abbrev t_law_k19 : DS PyData :=
  (dSeq (dSet 6 (dF c_l_due (dCons (dV 2) dNil)))
    (dSeq (dIf (dB (d2 fIsN (dVU 6) (dC .none))) (dRet (dAndV (dF c_l_refused_k19 (dCons (dV 2) dNil)) (dF c_l_refused_k19 (dCons (dV 2) dNil)))) dNext)
    (dRet (dF (c_same 4) (dCons (dF (c0 cx_p_read) (dCons (dV 2) dNil)) (dCons (dV 6) dNil))))))
abbrev d_law_k19 : DS PyData :=
  (dSeq (dSet 1 (dF c_l_machine (dCons (dV 0) (dCons (dC (.int 4)) (dCons (d2 fAdd (dC (.int 1)) (d2 fMod (dF c_l_cell_at (dCons (dV 0) (dCons (dC (.int 0)) dNil))) (dC (.int 6)))) (dCons (d2 fAdd (dC (.int 2)) (d2 fMod (d2 fDiv (dF c_l_cell_at (dCons (dV 0) (dCons (dC (.int 0)) dNil))) (dC (.int 6))) (dC (.int 3)))) dNil))))))
    (dSeq (dSet 2 (dF c_l_text (dCons (dV 1) dNil)))
    (dSeq (dSet 3 (d2 fMod (dF c_l_cell_at (dCons (dV 0) (dCons (dC (.int 1)) dNil))) (dC (.int 40))))
    (dSeq (dSet 4 (d2 fMod (dF c_l_cell_at (dCons (dV 0) (dCons (dC (.int 2)) dNil))) (d2 fAdd (dF fLen (dCons (dVU 2) dNil)) (dC (.int 1)))))
    (dSeq (dSet 5 (d2 fIx (dC (.str " :<>-01469_+.a")) (d2 fMod (dF c_l_cell_at (dCons (dV 0) (dCons (dC (.int 3)) dNil))) (dC (.int 14)))))
    (dSeq (dIf (dB (d2 fLt (dVU 3) (dC (.int 8)))) (dSet 2 (d2 fAdd (d2 fAdd (dSlT (dV 2) dNo (dSo (dVU 4))) (dVU 5)) (dSlT (dV 2) (dSo (dVU 4)) dNo))) (dIf (dB (d2 fLt (dVU 3) (dC (.int 14)))) (dSet 2 (d2 fAdd (d2 fAdd (dSlT (dV 2) dNo (dSo (dVU 4))) (dVU 5)) (dSlT (dV 2) (dSo (d2 fAdd (dVU 4) (dC (.int 1)))) dNo))) (dIf (dB (d2 fLt (dVU 3) (dC (.int 20)))) (dSet 2 (d2 fAdd (dSlT (dV 2) dNo (dSo (dVU 4))) (dSlT (dV 2) (dSo (d2 fAdd (dVU 4) (dC (.int 1)))) dNo))) (dIf (dB (d2 fLt (dVU 3) (dC (.int 25)))) (dSet 2 (dF c_l_worded (dCons (dV 2) (dCons (dF c_l_cell_at (dCons (dV 0) (dCons (dC (.int 2)) dNil))) (dCons (dF c_l_cell_at (dCons (dV 0) (dCons (dC (.int 3)) dNil))) dNil))))) (dIf (dB (d2 fLt (dVU 3) (dC (.int 29)))) (dSet 2 (dF c_l_odd (dCons (dF c_l_cell_at (dCons (dV 0) (dCons (dC (.int 3)) dNil))) dNil))) dNext)))))
    t_law_k19))))))
theorem x_law_k19  : ∃ c : Fn PyData, ∀ ds q, c ds q ↔ fnc 6 (d_law_k19 ) ds q := ⟨_, fun _ _ => Iff.rfl⟩
noncomputable def c_law_k19  : Fn PyData := Classical.choose (x_law_k19 )
theorem u_law_k19  {ds : List PyData} {q : PyData → Prop} (h : fnc 6 (d_law_k19 ) ds q) : c_law_k19  ds q := (Classical.choose_spec (x_law_k19 ) ds q).mpr h
theorem v_law_k19  {ds : List PyData} {q : PyData → Prop} (h : c_law_k19  ds q) : fnc 6 (d_law_k19 ) ds q := (Classical.choose_spec (x_law_k19 ) ds q).mp h

/-! slots of p_cost: ['machine', 'stand', 'rule', 'pile', 'near', 'far', 'signs'] -/
abbrev d_p_cost : DS PyData :=
  (dSeq (dSet 2 (dF c_p_rule_of (dCons (dV 0) (dCons (d2 fIx (dV 1) (dC (.int 0))) (dCons (d2 fIx (dV 1) (dC (.int 2))) dNil)))))
    (dSeq (dIf (dB (d2 fIsN (dVU 2) (dC .none))) (dRet (dC .none)) dNext)
    (dSeq (dSet 3 (dF c_p_piled (dCons (dV 0) (dCons (dV 1) dNil))))
    (dSeq (dSet 4 (d2 fIx (dV 3) (d2 fAdd (dC (.int 2)) (d2 fIx (dV 2) (dC (.int 1))))))
    (dSeq (dSet 5 (d2 fIx (dV 3) (d2 fSub (dC (.int 3)) (d2 fIx (dV 2) (dC (.int 1))))))
    (dSeq (dSet 6 (d2 fIx (dV 0) (dC (.int 1))))
    (dRet (d2 fAdd (d2 fAdd (d2 fAdd (d2 fAdd (d2 fMul (dVU 5) (d2 fAdd (d2 fMul (dC (.int 3)) (dVU 6)) (dC (.int 1)))) (d2 fMul (d2 fDiv (dVU 4) (dVU 6)) (d2 fAdd (dVU 6) (dC (.int 3))))) (d2 fMod (dVU 4) (dVU 6))) (d2 fIx (dV 2) (dC (.int 0)))) (dC (.int 4))))))))))
theorem x_p_cost  : ∃ c : Fn PyData, ∀ ds q, c ds q ↔ fnc 5 (d_p_cost ) ds q := ⟨_, fun _ _ => Iff.rfl⟩
noncomputable def c_p_cost  : Fn PyData := Classical.choose (x_p_cost )
theorem u_p_cost  {ds : List PyData} {q : PyData → Prop} (h : fnc 5 (d_p_cost ) ds q) : c_p_cost  ds q := (Classical.choose_spec (x_p_cost ) ds q).mpr h
theorem v_p_cost  {ds : List PyData} {q : PyData → Prop} (h : c_p_cost  ds q) : fnc 5 (d_p_cost ) ds q := (Classical.choose_spec (x_p_cost ) ds q).mp h

/-! slots of law_k20: ['script', 'machine', 'signs', 'top', 'stand', 'rule', 'found', 'near', 'far', 'due'] -/
abbrev d_law_k20 : DS PyData :=
  (dSeq (dSet 1 (dF c_l_machine (dCons (dV 0) (dCons (dC (.int 3)) (dCons (d2 fAdd (dC (.int 1)) (d2 fMod (dF c_l_cell_at (dCons (dV 0) (dCons (dC (.int 0)) dNil))) (dC (.int 6)))) (dCons (d2 fAdd (dC (.int 2)) (d2 fMod (d2 fDiv (dF c_l_cell_at (dCons (dV 0) (dCons (dC (.int 0)) dNil))) (dC (.int 6))) (dC (.int 3)))) dNil))))))
    (dSeq (dSet 2 (d2 fIx (dV 1) (dC (.int 1))))
    (dSeq (dSet 3 (dIxL (dCons (dIxL (dCons (dC (.int 4096)) (dCons (dC (.int 531441)) (dCons (dC (.int 16000000)) dNil))) (d2 fSub (dVU 2) (dC (.int 2)))) (dCons (dC (.int 64)) (dCons (dC (.int 1000)) dNil))) (d2 fMod (dF c_l_cell_at (dCons (dV 0) (dCons (dC (.int 2)) dNil))) (dC (.int 3)))))
    (dSeq (dSet 4 (dF c_l_stand (dCons (dV 1) (dCons (dF c_l_cell_at (dCons (dV 0) (dCons (dC (.int 1)) dNil))) (dCons (dF c_l_pick (dCons (dV 0) (dCons (dC (.int 40)) dNil))) (dCons (dV 3) dNil))))))
    (dSeq (dSet 5 (d2 fIx (d2 fIx (dV 1) (dC (.int 2))) (d2 fAdd (d2 fMul (d2 fIx (dV 4) (dC (.int 0))) (dVU 2)) (d2 fIx (dV 4) (dC (.int 2))))))
    (dSeq (dSet 6 (dF c_p_cost (dCons (dV 1) (dCons (dV 4) dNil))))
    (dSeq (dIf (dB (d2 fIsN (dVU 5) (dC .none))) (dRet (d2 fIsN (dVU 6) (dC .none))) dNext)
    (dSeq (dSet 7 (dF c_l_number (dCons (dIxL (dCons (d2 fIx (dV 4) (dC (.int 1))) (dCons (d2 fIx (dV 4) (dC (.int 3))) dNil)) (d2 fIx (dV 5) (dC (.int 1)))) (dCons (dV 2) dNil))))
    (dSeq (dSet 8 (dF c_l_number (dCons (dIxL (dCons (d2 fIx (dV 4) (dC (.int 3))) (dCons (d2 fIx (dV 4) (dC (.int 1))) dNil)) (d2 fIx (dV 5) (dC (.int 1)))) (dCons (dV 2) dNil))))
    (dSeq (dSet 9 (d2 fAdd (d2 fAdd (d2 fMul (dVU 8) (d2 fAdd (d2 fMul (dC (.int 3)) (dVU 2)) (dC (.int 1)))) (d2 fIx (dV 5) (dC (.int 0)))) (dC (.int 4))))
    (dSeq (dSet 9 (d2 fAdd (d2 fAdd (dVU 9) (d2 fMul (d2 fDiv (dVU 7) (dVU 2)) (d2 fAdd (dVU 2) (dC (.int 3))))) (d2 fMod (dVU 7) (dVU 2))))
    (dRet (dAndV (dF c_l_whole (dCons (dV 6) dNil)) (d2 fEq (dVU 6) (dVU 9)))))))))))))))
theorem x_law_k20  : ∃ c : Fn PyData, ∀ ds q, c ds q ↔ fnc 9 (d_law_k20 ) ds q := ⟨_, fun _ _ => Iff.rfl⟩
noncomputable def c_law_k20  : Fn PyData := Classical.choose (x_law_k20 )
theorem u_law_k20  {ds : List PyData} {q : PyData → Prop} (h : fnc 9 (d_law_k20 ) ds q) : c_law_k20  ds q := (Classical.choose_spec (x_law_k20 ) ds q).mpr h
theorem v_law_k20  {ds : List PyData} {q : PyData → Prop} (h : c_law_k20  ds q) : fnc 9 (d_law_k20 ) ds q := (Classical.choose_spec (x_law_k20 ) ds q).mp h
end DL
/-! plain mathematics: rows of signs, piles, machines -/
namespace DL
def digs (s n : Nat) : List Nat := if h : n = 0 ∨ s < 2 then [] else n % s :: digs s (n / s)
termination_by n
decreasing_by exact Nat.div_lt_self (by omega) (by omega)
theorem digs_zero (s : Nat) : digs s 0 = [] := by unfold digs; simp
theorem digs_pos {s n : Nat} (hs : 2 ≤ s) (hn : 0 < n) : digs s n = n % s :: digs s (n / s) := by
  rw [digs, dif_neg (by omega)]
def val (s : Nat) : List Nat → Nat
  | [] => 0
  | d :: r => val s r * s + d
theorem val_digs {s : Nat} (hs : 2 ≤ s) (n : Nat) : val s (digs s n) = n := by
  induction n using Nat.strongRecOn with
  | ind n ih =>
    by_cases h : n = 0
    · subst h; rw [digs_zero]; rfl
    · rw [digs_pos hs (by omega)]
      show val s (digs s (n / s)) * s + n % s = n
      rw [ih _ (Nat.div_lt_self (by omega) (by omega))]
      exact Nat.div_add_mod' n s
theorem digs_len {s : Nat} (hs : 2 ≤ s) : ∀ (k n : Nat), n < 2 ^ k → (digs s n).length ≤ k := by
  intro k
  induction k with
  | zero => intro n h; have : n = 0 := by simpa using h
            subst this; rw [digs_zero]; simp
  | succ k ih =>
    intro n h
    by_cases h0 : n = 0
    · subst h0; rw [digs_zero]; simp
    · rw [digs_pos hs (by omega), List.length_cons]
      have h1 : n / s ≤ n / 2 := Nat.div_le_div_left hs (by omega)
      have h2 : n / 2 < 2 ^ k := by rw [Nat.pow_succ] at h; omega
      have := ih (n / s) (by omega)
      omega
theorem digs_lt {s : Nat} (hs : 2 ≤ s) (n : Nat) : ∀ d ∈ digs s n, d < s := by
  induction n using Nat.strongRecOn with
  | ind n ih =>
    by_cases h : n = 0
    · subst h; rw [digs_zero]; simp
    · rw [digs_pos hs (by omega)]
      intro d hd
      rcases List.mem_cons.mp hd with rfl | hd
      · exact Nat.mod_lt _ (by omega)
      · exact ih _ (Nat.div_lt_self (by omega) (by omega)) d hd
theorem digs_last {s : Nat} (hs : 2 ≤ s) (n : Nat) : (digs s n).getLast? ≠ some 0 := by
  induction n using Nat.strongRecOn with
  | ind n ih =>
    by_cases h : n = 0
    · subst h; rw [digs_zero]; simp
    · rw [digs_pos hs (by omega)]
      by_cases h2 : n / s = 0
      · rw [h2, digs_zero]
        have h3 : n % s = n := Nat.mod_eq_of_lt (by
          have := Nat.div_add_mod n s
          rw [h2] at this
          have hm := Nat.mod_lt n (show 0 < s by omega)
          omega)
        simp; omega
      · have := ih _ (Nat.div_lt_self (by omega) (show 1 < s by omega))
        rw [digs_pos hs (Nat.pos_of_ne_zero h2)] at this ⊢
        rw [List.getLast?_cons_cons]
        exact this
/-- a row without noughts at its far end -/
def trim (l : List Nat) : List Nat := if h : l.getLast? = some 0 then trim l.dropLast else l
termination_by l.length
decreasing_by
  have : l ≠ [] := by intro z; subst z; simp at h
  have := List.length_pos_iff.mpr this
  rw [List.length_dropLast]; omega
theorem trim_of {l : List Nat} (h : l.getLast? ≠ some 0) : trim l = l := by
  rw [trim, dif_neg h]
theorem trim_zero {l : List Nat} (h : l.getLast? = some 0) : trim l = trim l.dropLast := by
  rw [trim, dif_pos h]
theorem trim_nil : trim [] = [] := trim_of (by simp)
/-- a sign put ahead of a trimmed row -/
theorem trim_cons {s : Nat} (hs : 2 ≤ s) {w n : Nat} (hw : w < s) : trim (w :: digs s n) = digs s (n * s + w) := by
  by_cases h : n = 0
  · subst h
    rw [digs_zero, Nat.zero_mul, Nat.zero_add]
    by_cases h2 : w = 0
    · subst h2
      rw [digs_zero, trim_zero (by simp)]
      exact trim_nil
    · rw [trim_of (by simp; omega), digs_pos hs (by omega), Nat.mod_eq_of_lt hw, Nat.div_eq_of_lt hw, digs_zero]
  · have h1 : 0 < n * s := Nat.mul_pos (by omega) (by omega)
    have h2 := digs_last hs n
    rw [trim_of, digs_pos hs (show 0 < n * s + w by omega)]
    · congr 1
      · rw [Nat.mul_comm, Nat.mul_add_mod, Nat.mod_eq_of_lt hw]
      · rw [Nat.mul_comm, Nat.mul_add_div (by omega), Nat.div_eq_of_lt hw, Nat.add_zero]
    · rw [digs_pos hs (by omega)] at h2 ⊢
      rw [List.getLast?_cons_cons]
      exact h2
/-- the nearest sign and the others -/
theorem digs_part {s : Nat} (hs : 2 ≤ s) (n : Nat) : (digs s n = [] ∧ n % s = 0 ∧ n / s = 0) ∨ digs s n = n % s :: digs s (n / s) := by
  by_cases h : n = 0
  · subst h; left; exact ⟨digs_zero s, Nat.zero_mod s, Nat.zero_div s⟩
  · exact .inr (digs_pos hs (by omega))
abbrev Rule := Option (Nat × Nat × Nat)
structure GoodM (rooms signs : Nat) (rules : List Rule) : Prop where
  r1 : 1 ≤ rooms
  r6 : rooms ≤ 6
  s2 : 2 ≤ signs
  s4 : signs ≤ 4
  len : rules.length = rooms * signs
  ok : ∀ w d r, some (w, d, r) ∈ rules → w < signs ∧ d < 2 ∧ r < rooms
structure Pile where
  room : Nat
  l : Nat
  u : Nat
  r : Nat
structure GoodP (rooms signs : Nat) (p : Pile) (b : Nat) : Prop where
  ro : p.room < rooms
  un : p.u < signs
  lb : p.l < 2 ^ b
  rb : p.r < 2 ^ b
def Pile.go (s : Nat) (p : Pile) : Nat × Nat × Nat → Pile
  | (w, d, rm) => if d = 0 then ⟨rm, p.l / s, p.l % s, p.r * s + w⟩ else ⟨rm, p.l * s + w, p.r % s, p.r / s⟩
def ruleAt (s : Nat) (rules : List Rule) (p : Pile) : Rule := (rules[p.room * s + p.u]?).getD none
def pnext (s : Nat) (rules : List Rule) (p : Pile) : Option Pile := (ruleAt s rules p).map (p.go s)
theorem at_lt {rooms signs room sign : Nat} (h1 : room < rooms) (h2 : sign < signs) : room * signs + sign < rooms * signs := by
  have : (room + 1) * signs ≤ rooms * signs := Nat.mul_le_mul_right _ h1
  rw [Nat.succ_mul] at this
  omega
theorem ruleAt_get {rooms s : Nat} {rules : List Rule} {p : Pile} {b : Nat} (g : GoodM rooms s rules) (h : GoodP rooms s p b) : rules[p.room * s + p.u]? = some (ruleAt s rules p) := by
  have := at_lt h.ro h.un
  unfold ruleAt
  rw [List.getElem?_eq_getElem (by rw [g.len]; exact this)]
  rfl
theorem go_good {rooms s : Nat} {rules : List Rule} {p : Pile} {b w d rm : Nat} (g : GoodM rooms s rules) (h : GoodP rooms s p b) (e : ruleAt s rules p = some (w, d, rm)) : GoodP rooms s (p.go s (w, d, rm)) (b + 3) := by
  have hm : some (w, d, rm) ∈ rules := by
    rw [← e]
    exact List.mem_of_getElem? (ruleAt_get g h)
  obtain ⟨h1, h2, h3⟩ := g.ok _ _ _ hm
  have s2 := g.s2
  have s4 := g.s4
  have lb := h.lb
  have rb := h.rb
  have e3 : 2 ^ (b + 3) = 2 ^ b * 8 := by rw [Nat.pow_add]
  have k1 : ∀ n, n < 2 ^ b → n * s + w < 2 ^ (b + 3) := fun n hn => by
    have : n * s ≤ n * 4 := Nat.mul_le_mul_left _ s4
    omega
  have k2 : ∀ n, n < 2 ^ b → n / s < 2 ^ (b + 3) := fun n hn => by
    have : n / s ≤ n := Nat.div_le_self _ _
    omega
  unfold Pile.go
  show GoodP rooms s (if d = 0 then _ else _) _
  split
  · exact ⟨h3, Nat.mod_lt _ (by omega), k2 _ lb, k1 _ rb⟩
  · exact ⟨h3, Nat.mod_lt _ (by omega), k1 _ lb, k2 _ rb⟩
theorem pnext_good {rooms s : Nat} {rules : List Rule} {p p' : Pile} {b : Nat} (g : GoodM rooms s rules) (h : GoodP rooms s p b) (e : pnext s rules p = some p') : GoodP rooms s p' (b + 3) := by
  unfold pnext at e
  cases hr : ruleAt s rules p with
  | none => rw [hr] at e; cases e
  | some t =>
    obtain ⟨w, d, rm⟩ := t
    rw [hr] at e
    cases e
    exact go_good g h hr
end DL
namespace DL
/-- at most n steps, and how many they were -/
def run {α : Type} (nx : α → Option α) : Nat → α → α × Nat
  | 0, a => (a, 0)
  | n + 1, a => match nx a with
    | none => (a, 0)
    | some b => ((run nx n b).1, (run nx n b).2 + 1)
theorem run_none {α : Type} {nx : α → Option α} {a : α} (h : nx a = none) (n : Nat) : run nx n a = (a, 0) := by
  cases n with
  | zero => rfl
  | succ n => simp only [run, h]
theorem run_some {α : Type} {nx : α → Option α} {a b : α} (h : nx a = some b) (n : Nat) : run nx (n + 1) a = ((run nx n b).1, (run nx n b).2 + 1) := by
  simp only [run, h]
theorem run_le {α : Type} (nx : α → Option α) : ∀ (n : Nat) (a : α), (run nx n a).2 ≤ n
  | 0, _ => Nat.le_refl _
  | n + 1, a => by
    cases h : nx a with
    | none => rw [run_none h]; exact Nat.zero_le _
    | some b => rw [run_some h]; exact Nat.succ_le_succ (run_le nx n b)
end DL
namespace DL
open PySem PySem.Spec PyProof.Rows L2
theorem cm {i j : Int} (h1 : -1000000000000 ≤ j) (h2 : j ≤ 1000000000000) : CMul i j := .inr ⟨by omega, by omega⟩
theorem cml {i j : Int} (h1 : -1000000000000 ≤ i) (h2 : i ≤ 1000000000000) : CMul i j := .inl ⟨by omega, by omega⟩
theorem cd {i j : Int} (h1 : 0 < j) (h2 : j ≤ 1000000000) : CDiv i j := ⟨h1, by omega⟩
theorem ixL_nat {ds : List PyData} {j : Nat} {d : PyData} {q : PyData → Prop} (h : ds[j]? = some d) (hq : q d) : fIxL ds (.int (j : Int)) q := by
  unfold fIxL
  simp only [atI_nat h]
  exact hq
theorem ixL_int {ds : List PyData} {i : Int} {j : Nat} {d : PyData} {q : PyData → Prop} (e : i = (j : Int)) (h : ds[j]? = some d) (hq : q d) : fIxL ds (.int i) q := by
  subst e
  exact ixL_nat h hq
theorem rng_inv {n i : Nat} {x : PyData} (h : (rngD 0 n)[i]? = some x) : i < n ∧ x = .int (i : Int) := by
  have hi : i < n := by
    have := (List.getElem?_eq_some_iff.mp h).1
    rw [rngD_len] at this
    exact this
  rw [rngD_get hi] at h
  refine ⟨hi, ?_⟩
  rw [← Option.some.inj h, Int.zero_add]
theorem rng_inv2 {lo : Int} {n i : Nat} {x : PyData} (h : (rngD lo n)[i]? = some x) : i < n ∧ x = .int (lo + (i : Int)) := by
  have hi : i < n := by
    have := (List.getElem?_eq_some_iff.mp h).1
    rw [rngD_len] at this
    exact this
  rw [rngD_get hi] at h
  exact ⟨hi, (Option.some.inj h).symm⟩
theorem nat_of {i : Int} (h : 0 ≤ i) : ∃ n : Nat, i = (n : Int) := ⟨i.toNat, (Int.toNat_of_nonneg h).symm⟩
theorem mod_nat (i : Int) {m : Int} (h : 0 < m) : ∃ n : Nat, i % m = (n : Int) ∧ (n : Int) < m := by
  obtain ⟨n, hn⟩ := nat_of (Int.emod_nonneg i (by omega : m ≠ 0))
  exact ⟨n, hn, by rw [← hn]; exact Int.emod_lt_of_pos i h⟩
abbrev iD (d : Nat) : PyData := .int d
def rowD (l : List Nat) : PyData := .tuple (l.map iD)
def ruleD : Rule → PyData
  | none => .none
  | some (w, d, r) => .tuple [.int w, .int d, .int r]
def mD (rooms signs : Nat) (rules : List Rule) : PyData := .tuple [.int rooms, .int signs, .tuple (rules.map ruleD)]
def stD (s : Nat) (p : Pile) : PyData := .tuple [.int p.room, rowD (digs s p.l), .int p.u, rowD (digs s p.r)]
def pileD (p : Pile) : PyData := .tuple [.int p.room, .int p.u, .int p.l, .int p.r]
def optD {α : Type} (f : α → PyData) : Option α → PyData
  | none => .none
  | some a => f a
def scrD (ns : List Int) : PyData := .list (ns.map PyData.int)
def cellAt (ns : List Int) (k : Nat) : Int := (ns[k]?).getD 0
def pickAt (ns : List Int) (k : Nat) : Int := match ns[k]? with
  | some x => x
  | none => (cellAt ns 0 + 7 * k + 3) * 48271 % 2147483647 / 13
/-! ### the laws' own helpers -/
theorem e_mix {c k : Int} {q : PyData → Prop} (h : q (.int ((c * 48271 + k * 40692) % 2147483647))) : c_l_mix [.int c, .int k] q := by
  refine u_l_mix ?_
  exact ⟨cm (by decide) (by decide), cm (by decide) (by decide), by decide, h⟩
theorem e_whole {d : PyData} {q : PyData → Prop} (h : q (.bool (isInt d && !isBool d))) : c_l_whole [d] q := by
  refine u_l_whole ?_
  refine ⟨fun e => ?_, fun e => ?_⟩
  · rw [e] at h
    exact h
  · rw [e] at h
    exact h
theorem scr_len (ns : List Int) : ((ns.map PyData.int).length : Int) = (ns.length : Int) := by rw [List.length_map]
theorem e_cell_at {ns : List Int} {k : Nat} {i : Int} {q : PyData → Prop} (hi : i = (k : Int)) (h : q (.int (cellAt ns k))) : c_l_cell_at [scrD ns, .int i] q := by
  subst hi
  refine u_l_cell_at ?_
  refine ⟨fun c => ?_, fun c => ?_⟩
  · have c' : (k : Int) < ((ns.map PyData.int).length : Int) := of_decide_eq_true c
    have hk : k < ns.length := by
      rw [scr_len] at c'
      omega
    refine ixL_nat (j := k) (d := .int ns[k]) (by rw [List.getElem?_map, List.getElem?_eq_getElem hk]; rfl) ?_
    unfold cellAt at h
    rw [List.getElem?_eq_getElem hk] at h
    exact h
  · have c' : ¬ (k : Int) < ((ns.map PyData.int).length : Int) := of_decide_eq_false c
    unfold cellAt at h
    rw [List.getElem?_eq_none (by rw [scr_len] at c'; omega)] at h
    exact h
theorem e_pick {ns : List Int} {k : Nat} {i : Int} {q : PyData → Prop} (hi : i = (k : Int)) (h : q (.int (pickAt ns k))) : c_l_pick [scrD ns, .int i] q := by
  subst hi
  refine u_l_pick ?_
  refine ⟨fun c => ?_, fun c => ?_⟩
  · have c' : (k : Int) < ((ns.map PyData.int).length : Int) := of_decide_eq_true c
    have hk : k < ns.length := by
      rw [scr_len] at c'
      omega
    refine ixL_nat (j := k) (d := .int ns[k]) (by rw [List.getElem?_map, List.getElem?_eq_getElem hk]; rfl) ?_
    unfold pickAt at h
    rw [List.getElem?_eq_getElem hk] at h
    exact h
  · have c' : ¬ (k : Int) < ((ns.map PyData.int).length : Int) := of_decide_eq_false c
    unfold pickAt at h
    rw [List.getElem?_eq_none (by rw [scr_len] at c'; omega)] at h
    refine e_cell_at (k := 0) rfl ?_
    exact ⟨cml (by decide) (by decide), cm (by decide) (by decide), by decide, cd (by decide) (by decide), h⟩
/-! _law_same at equal data -/
theorem lcGo_map {j : Nat} {de : DE PyData} {env : En} {f : PyData → PyData} : ∀ (ds acc : List PyData) (q : List PyData → Prop), (∀ x ∈ ds, ∀ q' : PyData → Prop, q' (f x) → de (env.set j (some (.val x))) q') → q (acc ++ ds.map f) → lcGo j dTrue de env ds acc q
  | [], acc, q, _, h => by
    rw [List.map_nil, List.append_nil] at h
    exact h
  | x :: r, acc, q, hx, h => by
    refine ⟨fun _ => hx x List.mem_cons_self _ (lcGo_map r (acc ++ [f x]) q (fun y hy => hx y (List.mem_cons_of_mem _ hy)) ?_), fun z => nomatch z⟩
    rw [List.append_assoc]
    exact h
theorem rng_mem {n : Nat} {x : PyData} (h : x ∈ rngD 0 n) : ∃ i : Nat, i < n ∧ x = .int (i : Int) := by
  unfold rngD at h
  obtain ⟨i, h1, h2⟩ := List.mem_map.mp h
  exact ⟨i, List.mem_range.mp h1, by rw [← h2, Int.zero_add]⟩
theorem all_true (n : Nat) : (List.replicate n true).all id = true := by simp
theorem same_s0 {n : Nat} {ds : List PyData} {c : Fn PyData} {q : PyData → Prop} (hc : ∀ d q, (∃ m, n = m + 1 ∧ plain m d = true) → q (.bool true) → c [d, d] q) (h : c_same n ds q) : c_l_same c ds q := by
  obtain ⟨d, rfl, hp, hq⟩ := v_same h
  refine u_l_same ?_
  have hint : ∀ i : Int, d = .int i → q (.bool true) → c_l_same c [d, d] q := fun i e hq => by
    subst e
    refine u_l_same ?_
    refine ⟨fun z => (nomatch z), fun _ => ⟨fun z => (nomatch z), fun _ => ⟨fun z => (nomatch z), fun _ => ?_⟩⟩⟩
    refine e_whole ?_
    refine ⟨fun _ => ?_, fun z => (nomatch z)⟩
    show q (.bool (decide (i = i)))
    rw [decide_eq_true rfl]
    exact hq
  cases d with
  | none => exact ⟨fun z => (nomatch z), fun _ => ⟨fun _ => ⟨fun _ => ⟨rfl, rfl, hq⟩, fun z => (nomatch z)⟩, fun z => (nomatch z)⟩⟩
  | int i =>
    have := hint i rfl hq
    have this := v_l_same this
    exact this
  | str s =>
    refine ⟨fun z => (nomatch z), fun _ => ⟨fun z => (nomatch z), fun _ => ?_⟩⟩
    refine ⟨fun _ => ?_, fun z => (nomatch z)⟩
    show q (.bool (decide (s = s)))
    rw [decide_eq_true rfl]
    exact hq
  | tuple ds =>
    cases n with
    | zero => cases hp
    | succ n =>
      have hp' : (decide (ds.length ≤ 1000000) && ds.all (plain n)) = true := hp
      rw [Bool.and_eq_true] at hp'
      have hl : ds.length ≤ 1000000 := of_decide_eq_true hp'.1
      refine ⟨fun _ => ⟨fun z => (nomatch z), fun _ => ⟨fun z => ?_, fun _ => ?_⟩⟩, fun z => (nomatch z)⟩
      · exfalso
        have z' : (!decide ((ds.length : Int) = (ds.length : Int))) = true := z
        rw [decide_eq_true rfl] at z'
        cases z'
      · refine ⟨⟨by omega, by omega⟩, by rw [rngD_len]; exact hl, ?_⟩
        refine lcGo_map (f := fun _ => .bool true) _ _ _ (fun x hx q' hq' => ?_) ?_
        · obtain ⟨i, hi, rfl⟩ := rng_mem hx
          have hi' : i < ds.length := hi
          refine ixL_nat (j := i) (List.getElem?_eq_getElem hi') (ixL_nat (j := i) (List.getElem?_eq_getElem hi') ?_)
          refine hc _ _ ⟨n, rfl, ?_⟩ hq'
          exact List.all_eq_true.mp hp'.2 _ (List.getElem_mem hi')
        · refine ⟨List.replicate ds.length true, ?_, ?_⟩
          · congr 2
            rw [List.nil_append, List.map_const', rngD_len, List.map_replicate]
            rfl
          · rw [all_true]
            exact hq
  | bool b => cases n <;> cases hp
  | list ds => cases n <;> cases hp
  | dict ds => cases n <;> cases hp
theorem same_z {ds : List PyData} {q : PyData → Prop} (h : c_same 0 ds q) : c_l_same (fun _ _ => False) ds q := same_s0 (fun d q ⟨m, e, _⟩ => nomatch e) h
theorem same_s {n : Nat} {ds : List PyData} {q : PyData → Prop} (h : c_same (n + 1) ds q) : c_l_same (c_same n) ds q :=
  same_s0 (fun d q ⟨m, e, hp⟩ hq => e_same (by cases e; exact hp) hq) h
end DL
namespace DL
open PySem PySem.Spec PyProof.Rows L2
/-! ### machines, rows, stands by the cells -/
theorem map_app1 {α β : Type} (f : α → β) (l : List α) (a : α) : l.map f ++ [f a] = (l ++ [a]).map f := by rw [List.map_append]; rfl
theorem e_row {s n : Nat} {x : Int} {q : PyData → Prop} (hx : x = (n : Int)) (hs : 2 ≤ s) (hs4 : s ≤ 1000) (hn : n < 2 ^ 1000) (h : q (rowD (digs s n))) : c_l_row [.int x, .int s] q := by
  subst hx
  refine u_l_row ?_
  have hl := digs_len hs 1000 n hn
  refine ⟨fun m env => ∃ pre : List Nat, env = [some (.val (.int (m : Nat))), some (.val (.int (s : Nat))), some (.own (pre.map iD))] ∧ pre ++ digs s m = digs s n, ⟨n, [], rfl, rfl⟩, ?_⟩
  rintro m env ⟨pre, rfl, e⟩
  refine ⟨fun c => ?_, fun c => ?_⟩
  · have c' : 0 < (m : Int) := of_decide_eq_true c
    have hm : 0 < m := by omega
    rw [digs_pos hs hm] at e
    have hpre : pre.length < 1000000 := by
      have := congrArg List.length e
      rw [List.length_append, List.length_cons] at this
      omega
    refine ⟨by omega, by rw [List.length_map]; exact hpre, cd (by omega) (by omega), m / s, Nat.div_lt_self hm (by omega), pre ++ [m % s], ?_, ?_⟩
    · rw [← map_app1]
      rfl
    · rw [List.append_assoc]
      exact e
  · have c' : ¬ 0 < (m : Int) := of_decide_eq_false c
    have hm : m = 0 := by omega
    subst hm
    rw [digs_zero, List.append_nil] at e
    subst e
    exact h
theorem val_drop (s : Nat) (l : List Nat) {i : Nat} (hi : i < l.length) : val s (l.drop (l.length - (i + 1))) = val s (l.drop (l.length - i)) * s + l[l.length - 1 - i]'(by omega) := by
  have h1 : l.length - (i + 1) < l.length := by omega
  rw [List.drop_eq_getElem_cons h1]
  have h2 : l.length - (i + 1) + 1 = l.length - i := by omega
  rw [h2]
  show val s (l.drop (l.length - i)) * s + l[l.length - (i + 1)] = _
  congr 2
  omega
theorem e_number {s : Nat} {l : List Nat} {q : PyData → Prop} (hs : s ≤ 1000) (hl : l.length ≤ 1000000) (h : q (.int (val s l : Nat))) : c_l_number [rowD l, .int s] q := by
  refine u_l_number ?_
  have hml : (l.map iD).length = l.length := List.length_map _
  refine ⟨⟨by rw [hml]; omega, by rw [hml]; omega⟩, fun i env => ∃ k : Option Sl, env = [some (.val (rowD l)), some (.val (.int (s : Nat))), some (.val (.int (val s (l.drop (l.length - i)) : Nat))), k], ⟨none, ?_⟩, ?_, ?_⟩
  · rw [Nat.sub_zero, List.drop_length]
    rfl
  · rintro i x env hx ⟨k, rfl⟩
    obtain ⟨hi, rfl⟩ := rng_inv hx
    have hi' : i < l.length := by
      have : ((l.map iD).length : Int).toNat = l.length := by rw [hml]; rfl
      rw [← this]
      exact hi
    refine ⟨cm (by omega) (by omega), ixL_int (j := l.length - 1 - i) ?_ (d := .int (l[l.length - 1 - i] : Nat)) ?_ ?_⟩
    · rw [hml]
      omega
    · rw [List.getElem?_map, List.getElem?_eq_getElem (by omega)]
      rfl
    · refine ⟨some (.val (.int (i : Nat))), ?_⟩
      rw [val_drop s l hi']
      rfl
  · rintro env ⟨k, rfl⟩
    have : (rngD 0 ((l.map iD).length : Int).toNat).length = l.length := by rw [rngD_len, hml]; rfl
    rw [this, Nat.sub_self, List.drop_zero]
    exact h
theorem e_machine {ns : List Int} {start rooms signs : Nat} {a b c : Int} {q : PyData → Prop} (ea : a = (start : Int)) (eb : b = (rooms : Int)) (ec : c = (signs : Int)) (hr : 1 ≤ rooms) (hr6 : rooms ≤ 6) (hs : 2 ≤ signs) (hs4 : signs ≤ 4)
    (h : ∀ rules, GoodM rooms signs rules → q (mD rooms signs rules)) : c_l_machine [scrD ns, .int a, .int b, .int c] q := by
  subst ea eb ec
  refine u_l_machine ?_
  have hm : rooms * signs ≤ 24 := Nat.mul_le_mul hr6 hs4
  have hmi : ((rooms : Int) * (signs : Int)) = ((rooms * signs : Nat) : Int) := rfl
  refine ⟨cm (by omega) (by omega), ⟨by rw [hmi]; omega, by rw [hmi]; omega⟩, fun i env => ∃ (rs : List Rule) (k n : Option Sl), env = [some (.val (scrD ns)), some (.val (.int start)), some (.val (.int rooms)), some (.val (.int signs)), some (.own (rs.map ruleD)), k, n] ∧ rs.length = i ∧
    ∀ w d r, some (w, d, r) ∈ rs → w < signs ∧ d < 2 ∧ r < rooms, ⟨[], none, none, rfl, rfl, fun w d r hw => nomatch hw⟩, ?_, ?_⟩
  · rintro i x env hx ⟨rs, k, n, rfl, hl, hok⟩
    obtain ⟨hi, rfl⟩ := rng_inv hx
    have hi' : i < rooms * signs := hi
    refine e_pick (k := start + i) rfl ?_
    refine e_mix ?_
    generalize hX : (pickAt ns (start + i) * 48271 + (i : Int) * 40692) % 2147483647 = X
    have hX0 : 0 ≤ X := by rw [← hX]; exact Int.emod_nonneg _ (by decide)
    refine ⟨by decide, fun _ => ?_, fun _ => ?_⟩
    · refine ⟨by rw [List.length_map]; omega, rs ++ [none], _, _, by rw [← map_app1]; rfl, by rw [List.length_append, hl]; rfl, fun w d r hw => ?_⟩
      rcases List.mem_append.mp hw with hw | hw
      · exact hok w d r hw
      · rcases List.mem_cons.mp hw with hw | hw
        · cases hw
        · cases hw
    · obtain ⟨w, hw, hw2⟩ := mod_nat (X / 5) (show (0 : Int) < (signs : Int) by omega)
      obtain ⟨d, hd, hd2⟩ := mod_nat (X / 64) (show (0 : Int) < 2 by omega)
      obtain ⟨r, hr, hr2⟩ := mod_nat (X / 512) (show (0 : Int) < (rooms : Int) by omega)
      refine ⟨cd (by decide) (by decide), by omega, cd (by decide) (by decide), by decide, cd (by decide) (by decide), by omega, ?_⟩
      refine ⟨by rw [List.length_map]; omega, rs ++ [some (w, d, r)], some (.val (.int (i : Nat))), some (.val (.int X)), ?_, by rw [List.length_append, hl]; rfl, fun w' d' r' hw' => ?_⟩
      · rw [← map_app1, hw, hd, hr]
        rfl
      · rcases List.mem_append.mp hw' with hw' | hw'
        · exact hok w' d' r' hw'
        · rcases List.mem_cons.mp hw' with hw' | hw'
          · cases hw'
            omega
          · cases hw'
  · rintro env ⟨rs, k, n, rfl, hl, hok⟩
    rw [rngD_len] at hl
    exact h rs ⟨hr, hr6, hs, hs4, hl, hok⟩
/-! stands -/
theorem e_stand {rooms signs most b : Nat} {rules : List Rule} {c d m : Int} {q : PyData → Prop} (em : m = (most : Int)) (hmost : most ≤ 2 ^ b) (hb : b ≤ 500) (hm0 : 0 < most) (g : GoodM rooms signs rules)
    (h : ∀ p, GoodP rooms signs p b → p.l < most → p.r < most → q (stD signs p)) : c_l_stand [mD rooms signs rules, .int c, .int d, .int m] q := by
  subst em
  refine u_l_stand ?_
  have s2 := g.s2
  have s4 := g.s4
  have r1 := g.r1
  have hm0' : (0 : Int) < (most : Int) := by omega
  refine ⟨cm (by decide) (by decide), by decide, cm (by decide) (by decide), by decide, cml (by decide) (by decide), ?_⟩
  refine e_mix ?_
  generalize ((c * 69621 + 13) % 2147483629) = A
  generalize ((d * 39373 + 7) % 2147483587) = B
  generalize (((c + 3 * d) * 48271 + 5 * 40692) % 2147483647) = C
  obtain ⟨l, hl, hl2⟩ := mod_nat A hm0'
  obtain ⟨r, hr, hr2⟩ := mod_nat B hm0'
  obtain ⟨ro, hro, hro2⟩ := mod_nat C (show (0 : Int) < (rooms : Int) by omega)
  obtain ⟨u, hu, hu2⟩ := mod_nat (C / 64) (show (0 : Int) < (signs : Int) by omega)
  have hp : 2 ^ b ≤ 2 ^ 500 := Nat.pow_le_pow_right (by decide) hb
  have h500 : (2 : Nat) ^ 500 < 2 ^ 1000 := Nat.pow_lt_pow_right (by decide) (by decide)
  refine ⟨hm0', ?_⟩
  refine e_row (n := l) hl s2 (by omega) (by omega) ?_
  refine ⟨hm0', ?_⟩
  refine e_row (n := r) hr s2 (by omega) (by omega) ?_
  refine ⟨by omega, cd (by decide) (by decide), by omega, ?_⟩
  have := h ⟨ro, l, u, r⟩ ⟨by show ro < rooms; omega, by show u < signs; omega, by show l < 2 ^ b; omega, by show r < 2 ^ b; omega⟩ (by show l < most; omega) (by show r < most; omega)
  rw [hro, hu]
  exact this
theorem rule_ix {rooms signs : Nat} {rules : List Rule} {p : Pile} {b : Nat} (g : GoodM rooms signs rules) (hp : GoodP rooms signs p b) : (rules.map ruleD)[p.room * signs + p.u]? = some (ruleD (ruleAt signs rules p)) := by
  rw [List.getElem?_map, ruleAt_get g hp]
  rfl
theorem digs_ok {s b n : Nat} (hs : 2 ≤ s) (hb : b ≤ 500) (h : n < 2 ^ b) : (digs s n).length ≤ 1000000 := by
  have := digs_len hs b n h
  omega
theorem lt1000 {b n : Nat} (hb : b ≤ 500) (h : n < 2 ^ (b + 3)) : n < 2 ^ 1000 := Nat.lt_of_lt_of_le h (Nat.pow_le_pow_right (by decide) (by omega))
theorem e_next {rooms signs b : Nat} {rules : List Rule} {p : Pile} {q : PyData → Prop} (g : GoodM rooms signs rules) (hp : GoodP rooms signs p b) (hb : b ≤ 490) (h : q (optD (stD signs) (pnext signs rules p))) :
    c_l_next [mD rooms signs rules, stD signs p] q := by
  refine u_l_next ?_
  have s2 := g.s2
  have s4 := g.s4
  have hro := hp.ro
  have r6 := g.r6
  unfold pnext at h
  refine ⟨cm (by omega) (by omega), ixL_nat (rule_ix g hp) ?_⟩
  cases hr : ruleAt signs rules p with
  | none =>
    rw [hr] at h
    exact ⟨fun _ => h, fun z => nomatch z⟩
  | some t =>
    obtain ⟨w, d, rm⟩ := t
    rw [hr] at h
    have gg := go_good g hp hr
    refine ⟨fun z => (nomatch z), fun _ => ?_⟩
    refine e_number (by omega) (digs_ok s2 (by omega) hp.lb) ?_
    refine e_number (by omega) (digs_ok s2 (by omega) hp.rb) ?_
    rw [val_digs s2, val_digs s2]
    obtain ⟨hw, hd, hrm⟩ := g.ok w d rm (by rw [← hr]; exact List.mem_of_getElem? (ruleAt_get g hp))
    have hd' : d = 0 ∨ d = 1 := by omega
    rcases hd' with rfl | rfl
    · refine ⟨cm (by omega) (by omega), cd (by omega) (by omega), ?_⟩
      refine e_row (n := p.l / signs) rfl s2 (by omega) (lt1000 (b := b) (by omega) gg.lb) ?_
      refine ⟨by omega, ?_⟩
      refine e_row (n := p.r * signs + w) rfl s2 (by omega) (lt1000 (b := b) (by omega) gg.rb) ?_
      exact h
    · refine ⟨cm (by omega) (by omega), cd (by omega) (by omega), ?_⟩
      refine e_row (n := p.l * signs + w) rfl s2 (by omega) (lt1000 (b := b) (by omega) gg.lb) ?_
      refine ⟨by omega, ?_⟩
      refine e_row (n := p.r / signs) rfl s2 (by omega) (lt1000 (b := b) (by omega) gg.rb) ?_
      exact h
end DL
namespace DL
open PySem PySem.Spec PyProof.Rows L2
/-! ### the program's tapes and piles -/
theorem e_rule_of {rooms signs b : Nat} {rules : List Rule} {p : Pile} {q : PyData → Prop} (g : GoodM rooms signs rules) (hp : GoodP rooms signs p b) (h : q (ruleD (ruleAt signs rules p))) :
    c_p_rule_of [mD rooms signs rules, .int p.room, .int p.u] q := by
  refine u_p_rule_of ?_
  have := g.s4
  exact ⟨cm (by omega) (by omega), ixL_nat (rule_ix g hp) h⟩
theorem e_row_of_number {s n : Nat} {q : PyData → Prop} (hs : 2 ≤ s) (hs4 : s ≤ 1000) (hn : n < 2 ^ 1000) (h : q (rowD (digs s n))) : c_p_row_of_number [.int n, .int s] q := by
  refine u_p_row_of_number ?_
  have hl := digs_len hs 1000 n hn
  refine ⟨fun m env => ∃ pre : List Nat, env = [some (.val (.int (m : Nat))), some (.val (.int (s : Nat))), some (.own (pre.map iD))] ∧ pre ++ digs s m = digs s n, ⟨n, [], rfl, rfl⟩, ?_⟩
  rintro m env ⟨pre, rfl, e⟩
  refine ⟨fun c => ?_, fun c => ?_⟩
  · have c' : 0 < (m : Int) := of_decide_eq_true c
    have hm : 0 < m := by omega
    rw [digs_pos hs hm] at e
    have hpre : pre.length < 1000000 := by
      have := congrArg List.length e
      rw [List.length_append, List.length_cons] at this
      omega
    refine ⟨by omega, by rw [List.length_map]; exact hpre, cd (by omega) (by omega), m / s, Nat.div_lt_self hm (by omega), pre ++ [m % s], ?_, ?_⟩
    · rw [← map_app1]
      rfl
    · rw [List.append_assoc]
      exact e
  · have c' : ¬ 0 < (m : Int) := of_decide_eq_false c
    have hm : m = 0 := by omega
    subst hm
    rw [digs_zero, List.append_nil] at e
    subst e
    exact h
theorem e_number_of_row {s : Nat} {l : List Nat} {q : PyData → Prop} (hs : s ≤ 1000) (h : q (.int (val s l : Nat))) : c_p_number_of_row [rowD l, .int s] q := by
  refine u_p_number_of_row ?_
  have hml : (l.map iD).reverse.length = l.length := by rw [List.length_reverse, List.length_map]
  refine ⟨fun i env => ∃ k : Option Sl, env = [some (.val (rowD l)), some (.val (.int (s : Nat))), some (.val (.int (val s (l.drop (l.length - i)) : Nat))), k], ⟨none, ?_⟩, ?_, ?_⟩
  · rw [Nat.sub_zero, List.drop_length]
    rfl
  · rintro i x env hx ⟨k, rfl⟩
    have hi : i < l.length := by
      have := (List.getElem?_eq_some_iff.mp hx).1
      omega
    rw [List.getElem?_reverse (by rw [List.length_map]; exact hi), List.getElem?_map, List.length_map, List.getElem?_eq_getElem (by omega)] at hx
    have hx' := Option.some.inj hx
    subst hx'
    refine ⟨cm (by omega) (by omega), some (.val (iD (l[l.length - 1 - i]'(by omega)))), ?_⟩
    rw [val_drop s l hi]
    rfl
  · rintro env ⟨k, rfl⟩
    rw [hml, Nat.sub_self, List.drop_zero]
    exact h
theorem e_piled {rooms signs : Nat} {rules : List Rule} {p : Pile} {q : PyData → Prop} (g : GoodM rooms signs rules) (h : q (pileD p)) : c_p_piled [mD rooms signs rules, stD signs p] q := by
  refine u_p_piled ?_
  have := g.s4
  have s2 := g.s2
  refine e_number_of_row (by omega) ?_
  refine e_number_of_row (by omega) ?_
  rw [val_digs s2, val_digs s2]
  exact h
theorem e_unpiled {rooms signs : Nat} {rules : List Rule} {p : Pile} {q : PyData → Prop} (g : GoodM rooms signs rules) (hl : p.l < 2 ^ 1000) (hr : p.r < 2 ^ 1000) (h : q (stD signs p)) : c_p_unpiled [mD rooms signs rules, pileD p] q := by
  refine u_p_unpiled ?_
  have := g.s4
  have s2 := g.s2
  refine e_row_of_number s2 (by omega) hl ?_
  refine e_row_of_number s2 (by omega) hr ?_
  exact h
theorem e_pile_stepped {rooms signs b : Nat} {rules : List Rule} {p : Pile} {q : PyData → Prop} (g : GoodM rooms signs rules) (hp : GoodP rooms signs p b) (h : q (optD pileD (pnext signs rules p))) :
    c_p_pile_stepped [mD rooms signs rules, pileD p] q := by
  refine u_p_pile_stepped ?_
  have s2 := g.s2
  have s4 := g.s4
  unfold pnext at h
  refine e_rule_of g hp ?_
  cases hr : ruleAt signs rules p with
  | none =>
    rw [hr] at h
    exact ⟨fun _ => h, fun z => nomatch z⟩
  | some t =>
    obtain ⟨w, d, rm⟩ := t
    rw [hr] at h
    obtain ⟨hw, hd, hrm⟩ := g.ok w d rm (by rw [← hr]; exact List.mem_of_getElem? (ruleAt_get g hp))
    refine ⟨fun z => (nomatch z), fun _ => ?_⟩
    have hd' : d = 0 ∨ d = 1 := by omega
    rcases hd' with rfl | rfl
    · refine ⟨fun _ => ?_, fun z => (nomatch z)⟩
      exact ⟨by omega, cd (by omega) (by omega), cm (by omega) (by omega), h⟩
    · refine ⟨fun z => (nomatch z), fun _ => ?_⟩
      exact ⟨by omega, cm (by omega) (by omega), cd (by omega) (by omega), h⟩
/-! tapes -/
theorem ixL_last {l : List Nat} {d : Nat} {q : PyData → Prop} (h : l.getLast? = some d) (hq : q (iD d)) : fIxL (l.map iD) (.int (-1)) q := by
  have hne : l ≠ [] := by
    intro z
    subst z
    cases h
  have e : l.map iD = l.dropLast.map iD ++ [iD d] := by
    rw [map_app1]
    congr 1
    rw [List.getLast?_eq_getLast hne] at h
    rw [← Option.some.inj h, List.dropLast_concat_getLast]
  unfold fIxL
  rw [e]
  simp only [atI_last]
  exact hq
theorem e_trimmed {l : List Nat} {q : PyData → Prop} (h : q (rowD (trim l))) : c_p_trimmed [rowD l] q := by
  refine u_p_trimmed ?_
  refine ⟨fun m env => ∃ pre : List Nat, env = [some (.val (rowD l)), some (.own (pre.map iD))] ∧ trim pre = trim l ∧ m = pre.length, ⟨_, l, rfl, rfl, rfl⟩, ?_⟩
  rintro m env ⟨pre, rfl, e, rfl⟩
  have hml : ((pre.map iD).length : Int) = (pre.length : Int) := by rw [List.length_map]
  have fin : trim pre = pre → dRet (dMkT (dVM 1)) ({ nx := fun _ => False, rt := q } : DEnds PyData) [some (.val (rowD l)), some (.own (pre.map iD))] := fun z => by
    rw [z] at e
    rw [← e] at h
    exact h
  refine ⟨fun c => ?_, fun c => ⟨fun z => (nomatch z), fun _ => ?_⟩⟩
  · have c' : (0 : Int) < ((pre.map iD).length : Int) := of_decide_eq_true c
    rw [hml] at c'
    have hne : pre ≠ [] := by
      intro z
      subst z
      exact absurd c' (by decide)
    have hlast := List.getLast?_eq_getLast hne
    refine ixL_last hlast ?_
    refine ⟨fun c2 => ?_, fun c2 => ?_⟩
    · have c3 : ((pre.getLast hne : Nat) : Int) = 0 := of_decide_eq_true c2
      have c4 : pre.getLast hne = 0 := by omega
      rw [c4] at hlast
      refine ⟨by rw [List.length_map]; omega, _, ?_, pre.dropLast, ?_, ?_, rfl⟩
      · rw [List.length_dropLast]
        omega
      · rw [List.map_dropLast]
        rfl
      · rw [← e, trim_zero hlast]
    · have c3 : ¬ ((pre.getLast hne : Nat) : Int) = 0 := of_decide_eq_false c2
      refine fin (trim_of ?_)
      rw [hlast]
      intro z
      exact c3 (by rw [Option.some.inj z]; rfl)
  · have c' : ¬ (0 : Int) < ((pre.map iD).length : Int) := of_decide_eq_false c
    rw [hml] at c'
    have hne : pre = [] := List.length_eq_zero_iff.mp (by omega)
    refine fin ?_
    rw [hne]
    exact trim_nil
theorem cut_tail {α : Type} (a : α) (r : List α) : cutD (a :: r) (some 1) none = r := by
  unfold cutD
  have h1 : HT.sIx (a :: r).length 0 (some 1) = 1 := by
    have := HT.sIx_nat (a :: r).length 0 1
    rw [List.length_cons] at this ⊢
    have h2 : min 1 (r.length + 1) = 1 := by omega
    rw [h2] at this
    exact this
  rw [h1, HT.sIx_none]
  show List.take ((a :: r).length - 1) r = r
  rw [List.length_cons, Nat.add_sub_cancel]
  exact List.take_length
theorem e_parted {s n : Nat} {q : PyData → Prop} (hs : 2 ≤ s) (h : q (.tuple [.int (n % s : Nat), rowD (digs s (n / s))])) : c_p_parted [rowD (digs s n)] q := by
  refine u_p_parted ?_
  rcases digs_part hs n with ⟨h1, h2, h3⟩ | h1
  · rw [h2, h3, digs_zero] at h
    rw [h1]
    exact ⟨fun _ => h, fun z => nomatch z⟩
  · rw [h1]
    refine ⟨fun z => ?_, fun _ => ?_⟩
    · have z' : (((n % s :: digs s (n / s)).map iD).length : Int) = 0 := of_decide_eq_true z
      rw [List.length_map, List.length_cons] at z'
      omega
    · refine ixL_nat (j := 0) (d := iD (n % s)) rfl ?_
      show q (.tuple [iD (n % s), .tuple (cutD (iD (n % s) :: (digs s (n / s)).map iD) (some 1) none)])
      rw [cut_tail]
      exact h
theorem e_stepped {rooms signs b : Nat} {rules : List Rule} {p : Pile} {q : PyData → Prop} (g : GoodM rooms signs rules) (hp : GoodP rooms signs p b) (hb : b ≤ 490) (h : q (optD (stD signs) (pnext signs rules p))) :
    c_p_stepped [mD rooms signs rules, stD signs p] q := by
  refine u_p_stepped ?_
  have s2 := g.s2
  have s4 := g.s4
  unfold pnext at h
  refine e_rule_of g hp ?_
  cases hr : ruleAt signs rules p with
  | none =>
    rw [hr] at h
    exact ⟨fun _ => h, fun z => nomatch z⟩
  | some t =>
    obtain ⟨w, d, rm⟩ := t
    rw [hr] at h
    obtain ⟨hw, hd, hrm⟩ := g.ok w d rm (by rw [← hr]; exact List.mem_of_getElem? (ruleAt_get g hp))
    refine ⟨fun z => (nomatch z), fun _ => ?_⟩
    have ll := digs_ok s2 (b := b) (by omega) hp.lb
    have lr := digs_ok s2 (b := b) (by omega) hp.rb
    have line : 1000001 ≤ sizeLine := by decide
    have hd' : d = 0 ∨ d = 1 := by omega
    rcases hd' with rfl | rfl
    · refine ⟨fun _ => ?_, fun z => (nomatch z)⟩
      refine e_parted s2 ?_
      refine ⟨?_, ?_⟩
      · rw [List.length_map]
        show 1 + (digs signs p.r).length ≤ sizeLine
        omega
      · refine e_trimmed (l := w :: digs signs p.r) ?_
        rw [trim_cons s2 hw]
        exact h
    · refine ⟨fun z => (nomatch z), fun _ => ?_⟩
      refine e_parted s2 ?_
      refine ⟨?_, ?_⟩
      · rw [List.length_map]
        show 1 + (digs signs p.l).length ≤ sizeLine
        omega
      · refine e_trimmed (l := w :: digs signs p.l) ?_
        rw [trim_cons s2 hw]
        exact h
end DL
namespace DL
open PySem PySem.Spec PyProof.Rows L2
/-- an item of a written list of numbers, whichever -/
theorem ixL_num {ms : List Nat} {i : Int} {B : Nat} {q : PyData → Prop} (hb : ∀ n ∈ ms, 0 < n ∧ n ≤ B) (h0 : 0 ≤ i) (h1 : i < (ms.length : Int)) (hq : ∀ n : Nat, 0 < n → n ≤ B → q (.int n)) : fIxL (ms.map iD) (.int i) q := by
  obtain ⟨j, rfl⟩ := nat_of h0
  have hj : j < ms.length := by omega
  refine ixL_nat (j := j) (d := iD ms[j]) (by rw [List.getElem?_map, List.getElem?_eq_getElem hj]; rfl) ?_
  have := hb ms[j] (List.getElem_mem hj)
  exact hq _ this.1 this.2
theorem e_mach {ns : List Int} {start a b : Nat} {st x y : Int} {q : PyData → Prop} (est : st = (start : Int)) (ha : 1 ≤ a) (ha6 : a ≤ 6) (hb : 1 ≤ b) (hb3 : b ≤ 3)
    (h : ∀ rooms signs rules, rooms ≤ a → signs ≤ b + 1 → GoodM rooms signs rules → q (mD rooms signs rules)) : c_l_machine [scrD ns, .int st, .int (1 + x % (a : Int)), .int (2 + y % (b : Int))] q := by
  obtain ⟨r, hr, hr2⟩ := mod_nat x (show (0 : Int) < (a : Int) by omega)
  obtain ⟨s, hs, hs2⟩ := mod_nat y (show (0 : Int) < (b : Int) by omega)
  refine e_machine (start := start) (rooms := 1 + r) (signs := 2 + s) est (by rw [hr]; rfl) (by rw [hs]; rfl) (by omega) (by omega) (by omega) (by omega) fun rules g => ?_
  exact h (1 + r) (2 + s) rules (by omega) (by omega) g
def costOf (s : Nat) (p : Pile) : Nat × Nat × Nat → Nat
  | (w, d, _) => (if d = 0 then p.r else p.l) * (3 * s + 1) + (if d = 0 then p.l else p.r) / s * (s + 3) + (if d = 0 then p.l else p.r) % s + w + 4
theorem e_cost {rooms signs b : Nat} {rules : List Rule} {p : Pile} {q : PyData → Prop} (g : GoodM rooms signs rules) (hp : GoodP rooms signs p b) (h : q (optD (fun t => .int (costOf signs p t : Nat)) (ruleAt signs rules p))) :
    c_p_cost [mD rooms signs rules, stD signs p] q := by
  refine u_p_cost ?_
  have s2 := g.s2
  have s4 := g.s4
  refine e_rule_of g hp ?_
  cases hr : ruleAt signs rules p with
  | none =>
    rw [hr] at h
    exact ⟨fun _ => h, fun z => nomatch z⟩
  | some t =>
    obtain ⟨w, d, rm⟩ := t
    rw [hr] at h
    obtain ⟨hw, hd, hrm⟩ := g.ok w d rm (by rw [← hr]; exact List.mem_of_getElem? (ruleAt_get g hp))
    refine ⟨fun z => (nomatch z), fun _ => ?_⟩
    refine e_piled g ?_
    have hd' : d = 0 ∨ d = 1 := by omega
    rcases hd' with rfl | rfl
    · exact ⟨cml (by decide) (by decide), cm (by omega) (by omega), cd (by omega) (by omega), cm (by omega) (by omega), by omega, h⟩
    · exact ⟨cml (by decide) (by decide), cm (by omega) (by omega), cd (by omega) (by omega), cm (by omega) (by omega), by omega, h⟩
theorem holds_k20 (ns : List Int) (hlen : ns.length ≤ 63) : c_law_k20 [.list (ns.map PyData.int)] (fun d => d = .bool true) := by
  refine u_law_k20 ?_
  refine e_cell_at (ns := ns) (k := 0) rfl ⟨by decide, ?_⟩
  refine e_cell_at (ns := ns) (k := 0) rfl ⟨cd (by decide) (by decide), by decide, ?_⟩
  refine e_mach (ns := ns) (start := 3) (a := 6) (b := 3) rfl (by decide) (by decide) (by decide) (by decide) fun rooms signs rules _ _ g => ?_
  have s2 := g.s2
  have s4 := g.s4
  refine ixL_num (ms := [4096, 531441, 16000000]) (B := 16000000) (by decide) (by omega) (by show (signs : Int) - 2 < 3; omega) fun n1 n1p n1b => ?_
  refine e_cell_at (ns := ns) (k := 2) rfl ⟨by decide, ?_⟩
  refine ixL_num (ms := [n1, 64, 1000]) (B := 16000000) ?_ (Int.emod_nonneg _ (by decide)) (Int.emod_lt_of_pos _ (by decide)) fun top t0 tb => ?_
  · intro n hn
    rcases List.mem_cons.mp hn with rfl | hn
    · exact ⟨n1p, n1b⟩
    · have : ∀ n ∈ [64, 1000], 0 < n ∧ n ≤ 16000000 := by decide
      exact this n hn
  refine e_cell_at (ns := ns) (k := 1) rfl ?_
  refine e_pick (ns := ns) (k := 40) rfl ?_
  refine e_stand (most := top) (b := 24) rfl (by omega) (by decide) t0 g fun p hp _ _ => ?_
  have hro := hp.ro
  have r6 := g.r6
  refine ⟨cm (by omega) (by omega), ixL_nat (rule_ix g hp) ?_⟩
  refine e_cost g hp ?_
  cases hr : ruleAt signs rules p with
  | none => exact ⟨fun _ => rfl, fun z => nomatch z⟩
  | some t =>
    obtain ⟨w, d, rm⟩ := t
    obtain ⟨hw, hd, hrm⟩ := g.ok w d rm (by rw [← hr]; exact List.mem_of_getElem? (ruleAt_get g hp))
    refine ⟨fun z => (nomatch z), fun _ => ?_⟩
    have hd' : d = 0 ∨ d = 1 := by omega
    have l1 := digs_ok s2 (b := 24) (by omega) hp.lb
    have l2 := digs_ok s2 (b := 24) (by omega) hp.rb
    rcases hd' with rfl | rfl
    · refine e_number (s := signs) (l := digs signs p.l) (by omega) l1 ?_
      refine e_number (s := signs) (l := digs signs p.r) (by omega) l2 ?_
      rw [val_digs s2, val_digs s2]
      refine ⟨cml (by decide) (by decide), cm (by omega) (by omega), cd (by omega) (by omega), cm (by omega) (by omega), by omega, ?_⟩
      refine e_whole ?_
      refine ⟨fun _ => ?_, fun z => nomatch z⟩
      refine congrArg PyData.bool (decide_eq_true ?_)
      have e : ((costOf signs p (w, 0, rm) : Nat) : Int) = (p.r : Int) * (3 * (signs : Int) + 1) + (p.l : Int) / (signs : Int) * ((signs : Int) + 3) + (p.l : Int) % (signs : Int) + (w : Int) + 4 := rfl
      refine e.trans ?_
      omega
    · refine e_number (s := signs) (l := digs signs p.r) (by omega) l2 ?_
      refine e_number (s := signs) (l := digs signs p.l) (by omega) l1 ?_
      rw [val_digs s2, val_digs s2]
      refine ⟨cml (by decide) (by decide), cm (by omega) (by omega), cd (by omega) (by omega), cm (by omega) (by omega), by omega, ?_⟩
      refine e_whole ?_
      refine ⟨fun _ => ?_, fun z => nomatch z⟩
      refine congrArg PyData.bool (decide_eq_true ?_)
      have e : ((costOf signs p (w, 1, rm) : Nat) : Int) = (p.l : Int) * (3 * (signs : Int) + 1) + (p.r : Int) / (signs : Int) * ((signs : Int) + 3) + (p.r : Int) % (signs : Int) + (w : Int) + 4 := rfl
      refine e.trans ?_
      omega
end DL
namespace DL
open PySem PySem.Spec PyProof.Rows L2
open TL
/-! ### a machine's text -/
def sg (n : Nat) : Str := ⟨#[48 + n]⟩
def ar (d : Nat) : Str := ⟨#[60 + 2 * d]⟩
def wS : Rule → Str
  | none => ⟨#[45]⟩
  | some (w, d, rm) => ⟨#[48 + w, 60 + 2 * d, 48 + rm]⟩
def hd1 (s : Nat) : Str := ⟨#[48 + s, 58]⟩
def txL (rooms s : Nat) (rules : List Rule) : List Str := sg rooms :: hd1 s :: rules.map wS
def tx (rooms s : Nat) (rules : List Rule) : Str := Str.join ⟨#[32]⟩ (txL rooms s rules)
theorem joinL_app (y w : List Nat) : ∀ (l : List (List Nat)), l ≠ [] → joinL y (l ++ [w]) = joinL y l ++ (y ++ w)
  | [], h => absurd rfl h
  | [p], _ => rfl
  | p :: q :: r, _ => by
    show p ++ (y ++ joinL y ((q :: r) ++ [w])) = p ++ (y ++ joinL y (q :: r)) ++ (y ++ w)
    rw [joinL_app y w (q :: r) (by simp)]
    simp only [List.append_assoc]
theorem sp_tl : (" " : Str) = ⟨#[32]⟩ := by decide +kernel
theorem tx_snoc (rooms s : Nat) (rules : List Rule) (r : Rule) : tx rooms s (rules ++ [r]) = tx rooms s rules ++ " " ++ wS r := by
  refine ext_tl ?_
  rw [tl_append, tl_append, sp_tl]
  unfold tx
  rw [tl_join, tl_join]
  have e : (txL rooms s (rules ++ [r])).map tl = (txL rooms s rules).map tl ++ [tl (wS r)] := by
    unfold txL
    simp only [List.map_cons, List.map_append, List.map_nil, List.cons_append]
  rw [e, joinL_app _ _ _ (by unfold txL; simp), List.append_assoc]
theorem tx_nil (rooms s : Nat) : tx rooms s [] = sg rooms ++ " " ++ sg s ++ ":" := by
  refine ext_tl ?_
  have e : (":" : Str) = ⟨#[58]⟩ := by decide +kernel
  rw [tl_append, tl_append, tl_append, sp_tl, e]
  rfl
theorem wS_len (r : Rule) : (wS r).length ≤ 3 := by
  cases r with
  | none => exact (by decide : 1 ≤ 3)
  | some t => exact Nat.le_refl 3
theorem str_len_app (x y : Str) : (x ++ y).length = x.length + y.length := by
  rw [len_tl, len_tl x, len_tl y, tl_append, List.length_append]
theorem tx_len (rooms s : Nat) : ∀ rules : List Rule, (tx rooms s rules.reverse).length ≤ 4 + 4 * rules.length
  | [] => Nat.le_refl 4
  | r :: rules => by
    rw [List.reverse_cons, tx_snoc, str_len_app, str_len_app]
    have h1 := tx_len rooms s rules
    have h2 := wS_len r
    have h3 : (" " : Str).length = 1 := by decide +kernel
    rw [h3, List.length_cons]
    omega
theorem tx_len' (rooms s : Nat) (rules : List Rule) : (tx rooms s rules).length ≤ 4 + 4 * rules.length := by
  have := tx_len rooms s rules.reverse
  rw [List.reverse_reverse, List.length_reverse] at this
  exact this
theorem str_num {n : Nat} (h : n < 10) : Str.ofString (toString ((n : Nat) : Int)) = sg n := by
  refine ext_tl ?_
  rw [tl_num, numL_lt h]
  rfl
theorem lg {n : Nat} (h : n < 10) : ((n : Nat) : Int).natAbs.log2 < 1920 := by
  have : Nat.log2 n ≤ n := by
    by_cases h0 : n = 0
    · subst h0; decide
    · exact Nat.le_of_lt ((Nat.log2_lt h0).mpr Nat.lt_two_pow_self)
  show Nat.log2 n < 1920
  omega
theorem rules24 {rooms s : Nat} {rules : List Rule} (g : GoodM rooms s rules) : rules.length ≤ 24 := by
  rw [g.len]
  exact Nat.mul_le_mul g.r6 g.s4
theorem big : 1000 ≤ sizeLine := by decide
theorem ar_at {d : Nat} (hd : d < 2) : atI ("<>" : Str).cps.toList ((d : Nat) : Int) = some (60 + 2 * d) := by
  rcases (by omega : d = 0 ∨ d = 1) with rfl | rfl <;> decide +kernel
theorem wS_some (w d rm : Nat) : wS (some (w, d, rm)) = sg w ++ ar d ++ sg rm := by
  refine ext_tl ?_
  rw [tl_append, tl_append]
  rfl
theorem take_snoc {rules : List Rule} {i : Nat} (hi : i < rules.length) : rules.take (i + 1) = rules.take i ++ [rules[i]] := by
  rw [List.take_add_one, List.getElem?_eq_getElem hi]
  rfl
theorem e_shown {rooms s : Nat} {rules : List Rule} {q : PyData → Prop} (g : GoodM rooms s rules) (h : q (.str (tx rooms s rules))) : c_p_shown [mD rooms s rules] q := by
  refine u_p_shown ?_
  have r6 := g.r6
  have s4 := g.s4
  have h24 := rules24 g
  have l1 : (" " : Str).length = 1 := by decide +kernel
  have l2 : (":" : Str).length = 1 := by decide +kernel
  have ls : ∀ n, (sg n).length = 1 := fun _ => rfl
  have la : ∀ n, (ar n).length = 1 := fun _ => rfl
  have hbig := big
  have n1 := str_num (n := rooms) (by omega)
  have n2 := str_num (n := s) (by omega)
  refine ⟨lg (n := rooms) (by omega), ?_, lg (n := s) (by omega), ?_, ?_, ?_⟩
  · show (Str.ofString (toString ((rooms : Nat) : Int))).length + _ ≤ _
    rw [n1, ls, l1]; omega
  · show (Str.ofString (toString ((rooms : Nat) : Int)) ++ " ").length + (Str.ofString (toString ((s : Nat) : Int))).length ≤ _
    rw [n1, n2, str_len_app, ls, ls, l1]; omega
  · show (Str.ofString (toString ((rooms : Nat) : Int)) ++ " " ++ Str.ofString (toString ((s : Nat) : Int))).length + _ ≤ _
    rw [n1, n2, str_len_app, str_len_app, ls, ls, l1, l2]; omega
  have e0 : Str.ofString (toString ((rooms : Nat) : Int)) ++ " " ++ Str.ofString (toString ((s : Nat) : Int)) ++ ":" = tx rooms s [] := by rw [n1, n2, tx_nil]
  refine ⟨fun i env => ∃ k : Option Sl, env = [some (.val (mD rooms s rules)), some (.val (.str (tx rooms s (rules.take i)))), k], ⟨none, by rw [List.take_zero, ← e0]; rfl⟩, ?_, ?_⟩
  · rintro i x env hx ⟨k, rfl⟩
    rw [List.getElem?_map] at hx
    cases hr : rules[i]? with
    | none => rw [hr] at hx; cases hx
    | some r =>
      rw [hr] at hx
      have hx' := Option.some.inj hx
      subst hx'
      have hi := (List.getElem?_eq_some_iff.mp hr).1
      have hri : rules[i] = r := by
        rw [List.getElem?_eq_getElem hi] at hr
        exact Option.some.inj hr
      have hlen := tx_len' rooms s (rules.take i)
      rw [List.length_take] at hlen
      have hsn := take_snoc hi
      rw [hri] at hsn
      have htx := tx_snoc rooms s (rules.take i) r
      rw [← hsn] at htx
      cases r with
      | none =>
        refine ⟨fun _ => ?_, fun z => nomatch z⟩
        have l3 : (" -" : Str).length = 2 := by decide +kernel
        refine ⟨by rw [l3]; omega, some (.val .none), ?_⟩
        rw [htx]
        have e : (" -" : Str) = " " ++ wS none := by decide +kernel
        rw [e]
        have e2 : tx rooms s (List.take i rules) ++ (" " ++ wS none) = tx rooms s (List.take i rules) ++ " " ++ wS none := by
          refine ext_tl ?_
          simp only [tl_append, List.append_assoc]
        rw [e2]
        rfl
      | some t =>
        obtain ⟨w, d, rm⟩ := t
        obtain ⟨o1, o2, o3⟩ := g.ok w d rm (List.mem_of_getElem? hr)
        refine ⟨fun z => (nomatch z), fun _ => ?_⟩
        have n3 := str_num (n := w) (by omega)
        have n4 := str_num (n := rm) (by omega)
        refine ⟨by rw [l1]; omega, lg (n := w) (by omega), ?_, ?_⟩
        · show (tx rooms s (rules.take i) ++ " ").length + (Str.ofString (toString ((w : Nat) : Int))).length ≤ _
          rw [n3, str_len_app, ls, l1]; omega
        refine ⟨by decide +kernel, ?_⟩
        rw [ar_at o2]
        refine ⟨?_, lg (n := rm) (by omega), ?_, some (.val (ruleD (some (w, d, rm)))), ?_⟩
        · show (tx rooms s (rules.take i) ++ " " ++ Str.ofString (toString ((w : Nat) : Int))).length + (ar d).length ≤ _
          rw [n3, str_len_app, str_len_app, ls, la, l1]; omega
        · show (tx rooms s (rules.take i) ++ " " ++ Str.ofString (toString ((w : Nat) : Int)) ++ ar d).length + (Str.ofString (toString ((rm : Nat) : Int))).length ≤ _
          rw [n3, n4, str_len_app, str_len_app, str_len_app, ls, ls, la, l1]; omega
        rw [htx, wS_some]
        have e2 : tx rooms s (List.take i rules) ++ " " ++ sg w ++ ar d ++ sg rm = tx rooms s (List.take i rules) ++ " " ++ (sg w ++ ar d ++ sg rm) := by
          refine ext_tl ?_
          simp only [tl_append, List.append_assoc]
        rw [← e2, ← n3, ← n4]
        rfl
  · rintro env ⟨k, rfl⟩
    rw [List.length_map, List.take_length]
    exact h
end DL
namespace DL
open PySem PySem.Spec PyProof.Rows L2
open TL
/-! ### a text read -/
theorem not_t {c : Bool} (h : c = false) {P : Prop} : c = true → P := fun z => by rw [h] at z; cases z
theorem not_f {c : Bool} (h : c = true) {P : Prop} : c = false → P := fun z => by rw [h] at z; cases z
theorem fig_in : ∀ n, n < 10 → (Builtin.Str.occurrences ("0123456789" : Str) (sg n) 0 ("0123456789" : Str).length 1).isEmpty = false := by decide +kernel
theorem fig_find : ∀ n, n < 10 → Txt.find ("0123456789" : Str) (sg n) = (n : Int) := by decide +kernel
theorem ar_in : ∀ d, d < 2 → (Builtin.Str.occurrences ("<>" : Str) (ar d) 0 ("<>" : Str).length 1).isEmpty = false := by decide +kernel
theorem ar_find : ∀ d, d < 2 → Txt.find ("<>" : Str) (ar d) = (d : Int) := by decide +kernel
theorem e_figure {n : Nat} {q : PyData → Prop} (h : n < 10) (hq : q (.int (n : Nat))) : c_p_figure [.str (sg n)] q := by
  refine u_p_figure ?_
  have hb : (sg n).length ≤ sizeLine := Nat.le_trans (show 1 ≤ 1000 by decide) big
  refine ⟨hb, fun z => (nomatch z), fun _ => ⟨fun z => ?_, fun _ => ?_⟩⟩
  · have z' : (!(!(Builtin.Str.occurrences ("0123456789" : Str) (sg n) 0 ("0123456789" : Str).length 1).isEmpty)) = true := z
    rw [fig_in n h] at z'
    cases z'
  · have go : q (.int (Txt.find ("0123456789" : Str) (sg n))) := by
      rw [fig_find n h]
      exact hq
    exact go
theorem dash : (⟨#[45]⟩ : Str) = "-" := by decide +kernel
theorem e_rule_read {w : Str} {r : Rule} {s rooms : Nat} {q : PyData → Prop} (hw : w = wS r) (hs : s ≤ 4) (hr : rooms ≤ 6) (ok : ∀ a d rm, r = some (a, d, rm) → a < s ∧ d < 2 ∧ rm < rooms) (hq : q (ruleD r)) : c_p_rule_read [.str w] q := by
  subst hw
  refine u_p_rule_read ?_
  cases r with
  | none => exact ⟨fun _ => hq, not_f (decide_eq_true dash)⟩
  | some t =>
    obtain ⟨a, d, rm⟩ := t
    obtain ⟨o1, o2, o3⟩ := ok a d rm rfl
    have hne : ¬ wS (some (a, d, rm)) = "-" := fun z => by
      have := congrArg Str.length z
      have e1 : (wS (some (a, d, rm))).length = 3 := rfl
      have e2 : ("-" : Str).length = 1 := by decide +kernel
      rw [e1, e2] at this
      cases this
    have hb : (wS (some (a, d, rm))).length ≤ sizeLine := Nat.le_trans (wS_len _) (by have := big; omega)
    refine ⟨not_t (decide_eq_false hne), fun _ => ?_⟩
    refine ⟨hb, fun z => (nomatch z), fun _ => ⟨hb, ?_⟩⟩
    refine ⟨fun z => ?_, fun _ => ?_⟩
    · have z' : (!(!(Builtin.Str.occurrences ("<>" : Str) (ar d) 0 ("<>" : Str).length 1).isEmpty)) = true := z
      rw [ar_in d o2] at z'
      cases z'
    · refine ⟨hb, ?_⟩
      refine e_figure (n := a) (by omega) ?_
      refine ⟨hb, hb, ?_⟩
      refine e_figure (n := rm) (by omega) ?_
      have go : q (.tuple [.int (a : Nat), .int (Txt.find ("<>" : Str) (ar d)), .int (rm : Nat)]) := by
        rw [ar_find d o2]
        exact hq
      exact go
theorem chain_le {env : En} {i j x : Int} {m : DE PyData} {q : Bool → Prop} (hx : ∀ K : PyData → Prop, K (.int x) → m env K) (h0 : i ≤ x) (h1 : x ≤ j) (hq : q false) : dNot (dB (dChain fLe fLe (dC (.int i)) m (dC (.int j)))) env q := by
  show m env _
  refine hx _ ?_
  show (match PyData.bool (decide (i ≤ x)) with
    | .bool true => fLe (.int x) (.int j) (fun d => match d with
      | .bool b => q (!b)
      | _ => False)
    | .bool false => _
    | _ => False)
  rw [decide_eq_true h0]
  show q (!(decide (x ≤ j)))
  rw [decide_eq_true h1]
  exact hq
theorem chain_lt {env : En} {i x y : Int} {m n : DE PyData} {q : PyData → Prop} (hx : ∀ K : PyData → Prop, K (.int x) → m env K) (hy : ∀ K : PyData → Prop, K (.int y) → n env K) (h0 : i ≤ x) (h1 : x < y) (hq : q (.bool true)) : dChain fLe fLt (dC (.int i)) m n env q := by
  show m env _
  refine hx _ ?_
  show (match PyData.bool (decide (i ≤ x)) with
    | .bool true => n env fun c => fLt (.int x) c q
    | .bool false => _
    | _ => False)
  rw [decide_eq_true h0]
  refine hy _ ?_
  show q (.bool (decide (x < y)))
  rw [decide_eq_true h1]
  exact hq
theorem chain_and {env : En} {i x y : Int} {m n b : DE PyData} {q : PyData → Prop} (hx : ∀ K : PyData → Prop, K (.int x) → m env K) (hy : ∀ K : PyData → Prop, K (.int y) → n env K) (h0 : i ≤ x) (h1 : x < y) (hq : b env q) : dAndV (dChain fLe fLt (dC (.int i)) m n) b env q :=
  chain_lt (q := fun d => match d with
    | .bool c => (c = true → b env q) ∧ (c = false → q (.bool false))
    | _ => False) hx hy h0 h1 ⟨fun _ => hq, fun z => nomatch z⟩
theorem e_ruled {r : Rule} {s rooms : Nat} {q : PyData → Prop} (ok : ∀ a d rm, r = some (a, d, rm) → a < s ∧ d < 2 ∧ rm < rooms) (hq : q (.bool true)) : c_p_ruled [ruleD r, .int (rooms : Nat), .int (s : Nat)] q := by
  refine u_p_ruled ?_
  dsimp only [fnc, d_p_ruled, dSeq, dIf, dRet, dNext]
  cases r with
  | none => exact ⟨fun _ => hq, fun z => nomatch z⟩
  | some t =>
    obtain ⟨a, d, rm⟩ := t
    obtain ⟨o1, o2, o3⟩ := ok a d rm rfl
    refine ⟨fun z => (nomatch z), fun _ => ?_⟩
    refine chain_and (i := 0) (x := (a : Int)) (y := (s : Int)) ?_ ?_ (by omega) (by omega) ?_
    · exact fun K hK => hK
    · exact fun K hK => hK
    refine chain_and (i := 0) (x := (d : Int)) (y := 2) ?_ ?_ (by omega) (by omega) ?_
    · exact fun K hK => hK
    · exact fun K hK => hK
    refine chain_lt (i := 0) (x := (rm : Int)) (y := (rooms : Int)) ?_ ?_ (by omega) (by omega) hq
    · exact fun K hK => hK
    · exact fun K hK => hK
/-- how many rules do something -/
def does (rules : List Rule) : Nat := (rules.filter Option.isSome).length
theorem does_snoc (rules : List Rule) (r : Rule) : does (rules ++ [r]) = does rules + (if r.isSome then 1 else 0) := by
  unfold does
  rw [List.filter_append, List.length_append]
  cases r <;> rfl
theorem e_looked {rooms s : Nat} {rules : List Rule} {q : PyData → Prop} (g : GoodM rooms s rules) (h : q (.int (does rules : Nat))) : c_p_looked [mD rooms s rules] q := by
  refine u_p_looked ?_
  dsimp only [fnc, d_p_looked, dSeq, dIf, dOr, dNext]
  have r1 := g.r1
  have r6 := g.r6
  have s2 := g.s2
  have s4 := g.s4
  have hml : (rules.map ruleD).length = rules.length := List.length_map _
  have hrl := rules24 g
  refine chain_le (i := 1) (j := 6) (x := (rooms : Int)) ?_ (by omega) (by omega) ?_
  · exact fun K hK => hK
  refine ⟨fun z => (nomatch z), fun _ => ?_⟩
  refine chain_le (i := 2) (j := 4) (x := (s : Int)) ?_ (by omega) (by omega) ?_
  · exact fun K hK => hK
  refine ⟨fun z => (nomatch z), fun _ => ?_⟩
  refine ⟨cm (by omega) (by omega), fun z => ?_, fun _ => ?_⟩
  · have z' : (!decide (((rules.map ruleD).length : Int) = (rooms : Int) * (s : Int))) = true := z
    rw [hml, g.len, decide_eq_true (show ((rooms * s : Nat) : Int) = (rooms : Int) * (s : Int) from rfl)] at z'
    cases z'
  refine ⟨fun i env => ∃ k : Option Sl, env = [some (.val (mD rooms s rules)), some (.val (.int (does (rules.take i) : Nat))), k], ⟨none, rfl⟩, ?_, ?_⟩
  · rintro i x env hx ⟨k, rfl⟩
    rw [List.getElem?_map] at hx
    cases hr : rules[i]? with
    | none => rw [hr] at hx; cases hx
    | some r =>
      rw [hr] at hx
      have hx' := Option.some.inj hx
      subst hx'
      have hi := (List.getElem?_eq_some_iff.mp hr).1
      have hri : rules[i] = r := by
        rw [List.getElem?_eq_getElem hi] at hr
        exact Option.some.inj hr
      have hsn := take_snoc hi
      rw [hri] at hsn
      have hd := does_snoc (rules.take i) r
      rw [← hsn] at hd
      refine e_ruled (fun a d rm e => g.ok a d rm (by rw [← e]; exact List.mem_of_getElem? hr)) ?_
      refine ⟨fun z => (nomatch z), fun _ => ?_⟩
      cases r with
      | none =>
        have hd : does (rules.take (i + 1)) = does (rules.take i) := hd
        refine ⟨fun z => (nomatch z), fun _ => ⟨some (.val .none), ?_⟩⟩
        rw [hd]
        rfl
      | some t =>
        have hd : does (rules.take (i + 1)) = does (rules.take i) + 1 := hd
        refine ⟨fun _ => ⟨some (.val (ruleD (some t))), ?_⟩, fun z => nomatch z⟩
        rw [hd]
        rfl
  · rintro env ⟨k, rfl⟩
    rw [List.length_map, List.take_length]
    exact h
theorem lcGo_rules {j : Nat} {de : DE PyData} {env : En} : ∀ (rs : List Rule) (acc : List PyData) (q : List PyData → Prop), (∀ r ∈ rs, ∀ q' : PyData → Prop, q' (ruleD r) → de (env.set j (some (.val (.str (wS r))))) q') → q (acc ++ rs.map ruleD) → lcGo j dTrue de env (rs.map fun r => .str (wS r)) acc q
  | [], acc, q, _, hq => by
    rw [List.map_nil, List.append_nil] at hq
    exact hq
  | r :: rs, acc, q, h, hq => by
    refine ⟨fun _ => h r List.mem_cons_self _ (lcGo_rules rs (acc ++ [ruleD r]) q (fun y hy => h y (List.mem_cons_of_mem _ hy)) ?_), fun z => nomatch z⟩
    rw [List.append_assoc]
    exact hq
end DL
namespace DL
open PySem PySem.Spec PyProof.Rows L2
open TL
theorem tx_split {rooms s : Nat} {rules : List Rule} (hr : rooms ≤ 9) (hs : s ≤ 9) (ok : ∀ a d rm, some (a, d, rm) ∈ rules → d < 2) : Txt.split (tx rooms s rules) " " = txL rooms s rules := by
  rw [sp_tl]
  unfold tx
  rw [← join_eq]
  refine split_join (s := 32) (S := []) rfl (by decide +kernel) (by unfold txL; simp) fun p hp => ?_
  rcases List.mem_cons.mp hp with rfl | hp
  · intro h
    have h : 32 ∈ [48 + rooms] := h
    rcases List.mem_singleton.mp h with h
    omega
  rcases List.mem_cons.mp hp with rfl | hp
  · intro h
    have h : 32 ∈ [48 + s, 58] := h
    simp at h
    omega
  · obtain ⟨r, hr, rfl⟩ := List.mem_map.mp hp
    intro h
    cases r with
    | none =>
      have h : 32 ∈ [45] := h
      simp at h
    | some t =>
      obtain ⟨a, d, rm⟩ := t
      have h : 32 ∈ [48 + a, 60 + 2 * d, 48 + rm] := h
      simp at h
      omega
theorem colon : (⟨#[58]⟩ : Str) = ":" := by decide +kernel
theorem cut_from2 {α : Type} (a b : α) (l : List α) : cutD (a :: b :: l) (some 2) none = l := by
  unfold cutD
  have e : HT.sIx (a :: b :: l).length 0 (some 2) = min 2 (a :: b :: l).length := HT.sIx_nat _ _ 2
  have h : min 2 (a :: b :: l).length = 2 := Nat.min_eq_left (by simp)
  rw [e, HT.sIx_none, h]
  refine List.take_of_length_le ?_
  simp
theorem e_read {rooms s : Nat} {rules : List Rule} {q : PyData → Prop} (g : GoodM rooms s rules) (h : q (mD rooms s rules)) : c_p_read [.str (tx rooms s rules)] q := by
  refine u_p_read ?_
  have r6 := g.r6
  have s2 := g.s2
  have s4 := g.s4
  have hrl := rules24 g
  have hbig := big
  have hlen := tx_len' rooms s rules
  have hsp := tx_split (rooms := rooms) (s := s) (rules := rules) (by omega) (by omega) fun a d rm hm => (g.ok a d rm hm).2.1
  refine ⟨by decide +kernel, by omega, ?_⟩
  rw [hsp]
  have hh : (hd1 s).length ≤ sizeLine := Nat.le_trans (show 2 ≤ 1000 by decide) big
  have i1 : ((txL rooms s rules).map PyData.str)[1]? = some (.str (hd1 s)) := rfl
  have i0 : ((txL rooms s rules).map PyData.str)[0]? = some (.str (sg rooms)) := rfl
  refine ⟨fun z => ?_, fun _ => ?_⟩
  · have z' : ((((txL rooms s rules).map PyData.str).length : Nat) : Int) < 2 := of_decide_eq_true z
    unfold txL at z'
    simp at z'
    omega
  refine ixL_nat (j := 1) i1 ?_
  refine ⟨hh, fun z => (nomatch z), fun _ => ?_⟩
  refine ixL_nat (j := 1) i1 ?_
  refine ⟨hh, fun z => ?_, fun _ => ?_⟩
  · have z' : (!decide ((⟨#[58]⟩ : Str) = ":")) = true := z
    rw [decide_eq_true colon] at z'
    cases z'
  refine ixL_nat (j := 0) i0 ?_
  refine e_figure (n := rooms) (by omega) ?_
  refine ixL_nat (j := 1) i1 ?_
  refine ⟨hh, ?_⟩
  refine e_figure (n := s) (by omega) ?_
  have main : ∀ ds : List PyData, ds = rules.map (fun r => .str (wS r)) → (ds.length ≤ 1000000 ∧ lcGo 4 dTrue (dF c_p_rule_read (dCons (dV 4) dNil)) [some (Sl.val (.str (tx rooms s rules))), some (.val (.list ((txL rooms s rules).map PyData.str))), none, none, none] ds [] fun es => c_p_looked [.tuple [.int (rooms : Nat), .int (s : Nat), .tuple es]] fun _ => ((!true) = true → False) ∧ ((!true) = false → q (.tuple [.int (rooms : Nat), .int (s : Nat), .tuple es]))) := by
    rintro ds rfl
    refine ⟨by rw [List.length_map]; omega, ?_⟩
    refine lcGo_rules rules [] _ (fun r hr q' hq' => ?_) ?_
    · exact e_rule_read (r := r) (s := s) (rooms := rooms) rfl s4 r6 (fun a d rm e => g.ok a d rm (by rw [← e]; exact hr)) hq'
    · rw [List.nil_append]
      exact e_looked g ⟨fun z => (nomatch z), fun _ => h⟩
  have e2 : cutD ((txL rooms s rules).map PyData.str) (some 2) none = rules.map (fun r => .str (wS r)) := by
    unfold txL
    rw [List.map_cons, List.map_cons, cut_from2, List.map_map]
    rfl
  exact main _ e2
theorem plain_mach {n rooms s : Nat} {rules : List Rule} (h : rules.length ≤ 1000000) : plain (n + 3) (mD rooms s rules) = true := by
  have hr : ∀ r : Rule, plain (n + 1) (ruleD r) = true := fun r => by
    cases r with
    | none => rfl
    | some t =>
      obtain ⟨a, d, rm⟩ := t
      cases n <;> rfl
  have h2 : plain (n + 2) (.tuple (rules.map ruleD)) = true := by
    show (decide ((rules.map ruleD).length ≤ 1000000) && (rules.map ruleD).all (plain (n + 1))) = true
    rw [Bool.and_eq_true]
    refine ⟨decide_eq_true (by rw [List.length_map]; exact h), List.all_eq_true.mpr fun x hx => ?_⟩
    obtain ⟨a, _, rfl⟩ := List.mem_map.mp hx
    exact hr a
  show (decide (3 ≤ 1000000) && (true && (true && (plain (n + 2) (.tuple (rules.map ruleD)) && true)))) = true
  rw [h2]
  rfl
theorem pick_ar {d : Nat} (hd : d < 2) : ([PyData.str "<", PyData.str ">"] : List PyData)[d]? = some (.str (ar d)) := by
  have e0 : ("<" : Str) = ar 0 := by decide +kernel
  have e1 : (">" : Str) = ar 1 := by decide +kernel
  rcases (by omega : d = 0 ∨ d = 1) with rfl | rfl
  · rw [e0]; rfl
  · rw [e1]; rfl
theorem holds_k18 (ns : List Int) (hlen : ns.length ≤ 63) : c_law_k18 [.list (ns.map PyData.int)] (fun d => d = .bool true) := by
  refine u_law_k18 ?_
  refine e_cell_at (ns := ns) (k := 0) rfl ⟨by decide, ?_⟩
  refine e_cell_at (ns := ns) (k := 0) rfl ⟨cd (by decide) (by decide), by decide, ?_⟩
  refine e_mach (ns := ns) (start := 1) (a := 6) (b := 3) rfl (by decide) (by decide) (by decide) (by decide) fun rooms s rules _ _ g => ?_
  have r6 := g.r6
  have s4 := g.s4
  have h24 := rules24 g
  have l1 : (" " : Str).length = 1 := by decide +kernel
  have l2 : (":" : Str).length = 1 := by decide +kernel
  have ls : ∀ n, (sg n).length = 1 := fun _ => rfl
  have la : ∀ n, (ar n).length = 1 := fun _ => rfl
  have hbig := big
  have n1 := str_num (n := rooms) (by omega)
  have n2 := str_num (n := s) (by omega)
  refine ⟨lg (n := rooms) (by omega), ?_, lg (n := s) (by omega), ?_, ?_, ?_⟩
  · show (Str.ofString (toString ((rooms : Nat) : Int))).length + _ ≤ _
    rw [n1, ls, l1]; omega
  · show (Str.ofString (toString ((rooms : Nat) : Int)) ++ " ").length + (Str.ofString (toString ((s : Nat) : Int))).length ≤ _
    rw [n1, n2, str_len_app, ls, ls, l1]; omega
  · show (Str.ofString (toString ((rooms : Nat) : Int)) ++ " " ++ Str.ofString (toString ((s : Nat) : Int))).length + _ ≤ _
    rw [n1, n2, str_len_app, str_len_app, ls, ls, l1, l2]; omega
  have e0 : Str.ofString (toString ((rooms : Nat) : Int)) ++ " " ++ Str.ofString (toString ((s : Nat) : Int)) ++ ":" = tx rooms s [] := by rw [n1, n2, tx_nil]
  refine ⟨fun i env => ∃ k w : Option Sl, env = [some (.val (scrD ns)), some (.val (mD rooms s rules)), some (.val (.str (tx rooms s (rules.take i)))), k, w, none], ⟨none, none, by rw [List.take_zero, ← e0]; rfl⟩, ?_, ?_⟩
  · rintro i x env hx ⟨k, w, rfl⟩
    rw [List.getElem?_map] at hx
    cases hr : rules[i]? with
    | none => rw [hr] at hx; cases hx
    | some r =>
      rw [hr] at hx
      have hx' := Option.some.inj hx
      subst hx'
      have hi := (List.getElem?_eq_some_iff.mp hr).1
      have hri : rules[i] = r := by
        rw [List.getElem?_eq_getElem hi] at hr
        exact Option.some.inj hr
      have hlen := tx_len' rooms s (rules.take i)
      rw [List.length_take] at hlen
      have hsn := take_snoc hi
      rw [hri] at hsn
      have htx := tx_snoc rooms s (rules.take i) r
      rw [← hsn] at htx
      cases r with
      | none =>
        have lw : ("-" : Str).length = 1 := by decide +kernel
        refine ⟨fun z => (nomatch z), fun _ => ⟨by rw [l1]; omega, by rw [str_len_app, l1, lw]; omega, some (.val .none), some (.val (.str "-")), ?_⟩⟩
        have e : wS none = "-" := dash
        rw [htx, e]
        rfl
      | some t =>
        obtain ⟨w', d, rm⟩ := t
        obtain ⟨o1, o2, o3⟩ := g.ok w' d rm (List.mem_of_getElem? hr)
        have n3 := str_num (n := w') (by omega)
        have n4 := str_num (n := rm) (by omega)
        refine ⟨fun _ => ⟨lg (n := w') (by omega), ?_⟩, fun z => nomatch z⟩
        refine ixL_nat (j := d) (pick_ar o2) ?_
        have e2 : Str.ofString (toString ((w' : Nat) : Int)) ++ ar d ++ Str.ofString (toString ((rm : Nat) : Int)) = wS (some (w', d, rm)) := by rw [n3, n4, wS_some]
        refine ⟨?_, lg (n := rm) (by omega), ?_, ?_, ?_, some (.val (ruleD (some (w', d, rm)))), some (.val (.str (wS (some (w', d, rm))))), ?_⟩
        · show (Str.ofString (toString ((w' : Nat) : Int))).length + (ar d).length ≤ _
          rw [n3, ls, la]; omega
        · show (Str.ofString (toString ((w' : Nat) : Int)) ++ ar d).length + (Str.ofString (toString ((rm : Nat) : Int))).length ≤ _
          rw [n3, n4, str_len_app, ls, ls, la]; omega
        · rw [l1]; omega
        · show (tx rooms s (rules.take i) ++ " ").length + (Str.ofString (toString ((w' : Nat) : Int)) ++ ar d ++ Str.ofString (toString ((rm : Nat) : Int))).length ≤ _
          rw [e2, str_len_app, l1]
          have := wS_len (some (w', d, rm))
          omega
        · rw [htx, ← e2]
          rfl
  · rintro env ⟨k, w, rfl⟩
    rw [List.length_map, List.take_length]
    refine e_shown g ?_
    refine ⟨fun _ => ⟨fun _ => ?_, fun z => ?_⟩, fun z => nomatch z⟩
    · refine e_read g ?_
      exact e_same (n := 4) (plain_mach (n := 1) (by omega)) rfl
    · have z' : decide (tx rooms s rules = tx rooms s rules) = false := z
      rw [decide_eq_true rfl] at z'
      cases z'
end DL
namespace DL
open PySem PySem.Spec PyProof.Rows L2
/-! ### machines that may be none -/
abbrev RX := Option (Int × Int × Int)
def rX : RX → PyData
  | none => .none
  | some (a, b, c) => .tuple [.int a, .int b, .int c]
def MX (R S : Int) (rs : List RX) : PyData := .tuple [.int R, .int S, .tuple (rs.map rX)]
def okR (R S : Int) : RX → Prop
  | none => True
  | some (a, b, c) => (0 ≤ a ∧ a < S) ∧ (0 ≤ b ∧ b < 2) ∧ (0 ≤ c ∧ c < R)
instance (R S : Int) : (r : RX) → Decidable (okR R S r)
  | none => .isTrue trivial
  | some (a, b, c) => inferInstanceAs (Decidable ((0 ≤ a ∧ a < S) ∧ (0 ≤ b ∧ b < 2) ∧ (0 ≤ c ∧ c < R)))
structure GoodX (R S : Int) (rs : List RX) : Prop where
  r : 1 ≤ R ∧ R ≤ 6
  s : 2 ≤ S ∧ S ≤ 4
  l : (rs.length : Int) = R * S
  ok : ∀ r ∈ rs, okR R S r
theorem chainN {env : En} {i j x : Int} {m : DE PyData} {q : Bool → Prop} (hx : ∀ K : PyData → Prop, K (.int x) → m env K) (hy : i ≤ x ∧ x ≤ j → q false) (hn : ¬ (i ≤ x ∧ x ≤ j) → q true) : dNot (dB (dChain fLe fLe (dC (.int i)) m (dC (.int j)))) env q := by
  show m env _
  refine hx _ ?_
  show (match PyData.bool (decide (i ≤ x)) with
    | .bool true => fLe (.int x) (.int j) (fun d => match d with
      | .bool b => q (!b)
      | _ => False)
    | .bool false => q (!false)
    | _ => False)
  by_cases h0 : i ≤ x
  · rw [decide_eq_true h0]
    show q (!(decide (x ≤ j)))
    by_cases h1 : x ≤ j
    · rw [decide_eq_true h1]; exact hy ⟨h0, h1⟩
    · rw [decide_eq_false h1]; exact hn fun z => h1 z.2
  · rw [decide_eq_false h0]
    exact hn fun z => h0 z.1
theorem chainV {env : En} {i x y : Int} {m n : DE PyData} {q : PyData → Prop} (hx : ∀ K : PyData → Prop, K (.int x) → m env K) (hy : ∀ K : PyData → Prop, K (.int y) → n env K) (h : q (.bool (decide (i ≤ x ∧ x < y)))) : dChain fLe fLt (dC (.int i)) m n env q := by
  show m env _
  refine hx _ ?_
  show (match PyData.bool (decide (i ≤ x)) with
    | .bool true => n env fun c => fLt (.int x) c q
    | .bool false => q (.bool false)
    | _ => False)
  by_cases h0 : i ≤ x
  · rw [decide_eq_true h0]
    refine hy _ ?_
    show q (.bool (decide (x < y)))
    by_cases h1 : x < y
    · rw [decide_eq_true (show i ≤ x ∧ x < y from ⟨h0, h1⟩)] at h
      rw [decide_eq_true h1]; exact h
    · rw [decide_eq_false (fun z : i ≤ x ∧ x < y => h1 z.2)] at h
      rw [decide_eq_false h1]; exact h
  · rw [decide_eq_false (fun z : i ≤ x ∧ x < y => h0 z.1)] at h
    rw [decide_eq_false h0]
    exact h
theorem chainA {env : En} {i x y : Int} {m n b : DE PyData} {q : PyData → Prop} (hx : ∀ K : PyData → Prop, K (.int x) → m env K) (hy : ∀ K : PyData → Prop, K (.int y) → n env K) (h1 : i ≤ x ∧ x < y → b env q) (h0 : ¬ (i ≤ x ∧ x < y) → q (.bool false)) : dAndV (dChain fLe fLt (dC (.int i)) m n) b env q :=
  chainV (q := fun d => match d with
    | .bool c => (c = true → b env q) ∧ (c = false → q (.bool false))
    | _ => False) hx hy ⟨fun z => h1 (of_decide_eq_true z), fun z => h0 (of_decide_eq_false z)⟩
theorem e_ruledX {R S : Int} {r : RX} {q : PyData → Prop} (h : q (.bool (decide (okR R S r)))) : c_p_ruled [rX r, .int R, .int S] q := by
  refine u_p_ruled ?_
  dsimp only [fnc, d_p_ruled, dSeq, dIf, dRet, dNext]
  cases r with
  | none => exact ⟨fun _ => h, fun z => nomatch z⟩
  | some t =>
    obtain ⟨a, b, c⟩ := t
    have hf : ¬ okR R S (some (a, b, c)) → q (.bool false) := fun z => by rw [decide_eq_false z] at h; exact h
    refine ⟨fun z => (nomatch z), fun _ => ?_⟩
    refine chainA (i := 0) (x := a) (y := S) ?_ ?_ (fun h1 => ?_) fun h1 => hf fun z => h1 z.1
    · exact fun K hK => hK
    · exact fun K hK => hK
    refine chainA (i := 0) (x := b) (y := 2) ?_ ?_ (fun h2 => ?_) fun h2 => hf fun z => h2 z.2.1
    · exact fun K hK => hK
    · exact fun K hK => hK
    refine chainV (i := 0) (x := c) (y := R) ?_ ?_ ?_
    · exact fun K hK => hK
    · exact fun K hK => hK
    by_cases h3 : 0 ≤ c ∧ c < R
    · rw [decide_eq_true (show okR R S (some (a, b, c)) from ⟨h1, h2, h3⟩)] at h
      rw [decide_eq_true h3]; exact h
    · rw [decide_eq_false h3]
      exact hf fun z => h3 z.2.2
def doesX (rs : List RX) : Nat := (rs.filter Option.isSome).length
theorem doesX_snoc (rs : List RX) (r : RX) : doesX (rs ++ [r]) = doesX rs + (if r.isSome then 1 else 0) := by
  unfold doesX
  rw [List.filter_append, List.length_append]
  cases r <;> rfl
theorem takeX {rs : List RX} {i : Nat} (hi : i < rs.length) : rs.take (i + 1) = rs.take i ++ [rs[i]] := by
  rw [List.take_add_one, List.getElem?_eq_getElem hi]
  rfl
theorem e_lookedX {R S : Int} {rs : List RX} {q : PyData → Prop} {x : Str → Prop} (hl : rs.length ≤ 1000) (hR : 0 ≤ R ∧ R ≤ 100) (hS : 0 ≤ S ∧ S ≤ 100) (hy : GoodX R S rs → q (.int (doesX rs : Nat))) (hn : ¬ GoodX R S rs → x "NoMachine") : cx_p_looked [MX R S rs] q x := by
  refine ux_p_looked ?_
  have hml : (rs.map rX).length = rs.length := List.length_map _
  dsimp only [fncX, dx_p_looked, dSeq, dIf, dOr, dNext]
  refine chainN (i := 1) (j := 6) (x := R) ?_ (fun h1 => ?_) fun h1 => ?_
  · exact fun K hK => hK
  · refine ⟨fun z => (nomatch z), fun _ => ?_⟩
    refine chainN (i := 2) (j := 4) (x := S) ?_ (fun h2 => ?_) fun h2 => ?_
    · exact fun K hK => hK
    · refine ⟨fun z => (nomatch z), fun _ => ?_⟩
      refine ⟨cm (by omega) (by omega), fun z => ?_, fun z => ?_⟩
      · have z' : (!decide (((rs.map rX).length : Int) = R * S)) = true := z
        rw [hml] at z'
        refine hn fun g => ?_
        rw [decide_eq_true g.l] at z'
        cases z'
      · have z' : (!decide (((rs.map rX).length : Int) = R * S)) = false := z
        rw [hml] at z'
        have h3 : (rs.length : Int) = R * S := by
          by_cases e : (rs.length : Int) = R * S
          · exact e
          · rw [decide_eq_false e] at z'
            cases z'
        refine ⟨fun i env => (∃ k : Option Sl, env = [some (.val (MX R S rs)), some (.val (.int (doesX (rs.take i) : Nat))), k]) ∧ ∀ r ∈ rs.take i, okR R S r, ⟨⟨none, rfl⟩, fun r hr => nomatch hr⟩, ?_, ?_⟩
        · rintro i y env hx ⟨⟨k, rfl⟩, hok⟩
          rw [List.getElem?_map] at hx
          cases hr : rs[i]? with
          | none => rw [hr] at hx; cases hx
          | some r =>
            rw [hr] at hx
            have hx' := Option.some.inj hx
            subst hx'
            have hi := (List.getElem?_eq_some_iff.mp hr).1
            have hri : rs[i] = r := by
              rw [List.getElem?_eq_getElem hi] at hr
              exact Option.some.inj hr
            have hsn := takeX hi
            rw [hri] at hsn
            have hd := doesX_snoc (rs.take i) r
            rw [← hsn] at hd
            refine e_ruledX ?_
            by_cases hk : okR R S r
            · rw [decide_eq_true hk]
              have hok' : ∀ r' ∈ rs.take (i + 1), okR R S r' := fun r' h' => by
                rw [hsn] at h'
                rcases List.mem_append.mp h' with h' | h'
                · exact hok r' h'
                · rcases List.mem_singleton.mp h' with rfl
                  exact hk
              refine ⟨fun z => (nomatch z), fun _ => ?_⟩
              cases r with
              | none =>
                have hd : doesX (rs.take (i + 1)) = doesX (rs.take i) := hd
                refine ⟨fun z => (nomatch z), fun _ => ⟨⟨some (.val .none), ?_⟩, hok'⟩⟩
                rw [hd]
                rfl
              | some t =>
                have hd : doesX (rs.take (i + 1)) = doesX (rs.take i) + 1 := hd
                refine ⟨fun _ => ⟨⟨some (.val (rX (some t))), ?_⟩, hok'⟩, fun z => nomatch z⟩
                rw [hd]
                rfl
            · rw [decide_eq_false hk]
              exact ⟨fun _ => hn fun g => hk (g.ok r (List.mem_of_getElem? hr)), fun z => nomatch z⟩
        · rintro env ⟨⟨k, rfl⟩, hok⟩
          rw [List.length_map, List.take_length] at hok ⊢
          exact hy ⟨h1, h2, h3, hok⟩
    · exact ⟨fun _ => hn fun g => h2 g.s, fun z => nomatch z⟩
  · exact ⟨fun _ => ⟨fun _ => hn fun g => h1 g.r, fun z => nomatch z⟩, fun z => nomatch z⟩
/-- the other way: it never raises where the machine is one -/
theorem e_lookedN {R S : Int} {rs : List RX} {q : PyData → Prop} (g : GoodX R S rs) (hl : rs.length ≤ 1000) (hq : q (.int (doesX rs : Nat))) : c_p_looked [MX R S rs] q := by
  refine u_p_looked ?_
  have hml : (rs.map rX).length = rs.length := List.length_map _
  have r1 := g.r
  have s1 := g.s
  dsimp only [fnc, d_p_looked, dSeq, dIf, dOr, dNext]
  refine chainN (i := 1) (j := 6) (x := R) ?_ (fun h1 => ?_) fun h1 => absurd g.r h1
  · exact fun K hK => hK
  refine ⟨fun z => (nomatch z), fun _ => ?_⟩
  refine chainN (i := 2) (j := 4) (x := S) ?_ (fun h2 => ?_) fun h2 => absurd g.s h2
  · exact fun K hK => hK
  refine ⟨fun z => (nomatch z), fun _ => ?_⟩
  refine ⟨cm (by omega) (by omega), fun z => ?_, fun z => ?_⟩
  · have z' : (!decide (((rs.map rX).length : Int) = R * S)) = true := z
    rw [hml, decide_eq_true g.l] at z'
    cases z'
  refine ⟨fun i env => ∃ k : Option Sl, env = [some (.val (MX R S rs)), some (.val (.int (doesX (rs.take i) : Nat))), k], ⟨none, rfl⟩, ?_, ?_⟩
  · rintro i y env hx ⟨k, rfl⟩
    rw [List.getElem?_map] at hx
    cases hr : rs[i]? with
    | none => rw [hr] at hx; cases hx
    | some r =>
      rw [hr] at hx
      have hx' := Option.some.inj hx
      subst hx'
      have hi := (List.getElem?_eq_some_iff.mp hr).1
      have hri : rs[i] = r := by
        rw [List.getElem?_eq_getElem hi] at hr
        exact Option.some.inj hr
      have hsn := takeX hi
      rw [hri] at hsn
      have hd := doesX_snoc (rs.take i) r
      rw [← hsn] at hd
      refine e_ruledX ?_
      rw [decide_eq_true (g.ok r (List.mem_of_getElem? hr))]
      refine ⟨fun z => (nomatch z), fun _ => ?_⟩
      cases r with
      | none =>
        have hd : doesX (rs.take (i + 1)) = doesX (rs.take i) := hd
        refine ⟨fun z => (nomatch z), fun _ => ⟨some (.val .none), ?_⟩⟩
        rw [hd]
        rfl
      | some t =>
        have hd : doesX (rs.take (i + 1)) = doesX (rs.take i) + 1 := hd
        refine ⟨fun _ => ⟨some (.val (rX (some t))), ?_⟩, fun z => nomatch z⟩
        rw [hd]
        rfl
  · rintro env ⟨k, rfl⟩
    rw [List.length_map, List.take_length]
    exact hq
theorem e_refused {R S : Int} {rs : List RX} {q : PyData → Prop} (hl : rs.length ≤ 1000) (hR : 0 ≤ R ∧ R ≤ 100) (hS : 0 ≤ S ∧ S ≤ 100) (hn : ¬ GoodX R S rs) (hq : q (.bool true)) : c_l_refused_k01 [MX R S rs] q := by
  refine u_l_refused_k01 ⟨_, rfl, ?_⟩
  exact e_lookedX hl hR hS (fun g => absurd g hn) fun _ => ⟨rfl, hq⟩
/-! ### the law's own test -/
theorem e_good {R S : Int} {rs : List RX} {q : PyData → Prop} (hl : rs.length ≤ 1000) (hR : 0 ≤ R ∧ R ≤ 100) (hS : 0 ≤ S ∧ S ≤ 100) (hy : GoodX R S rs → q (.bool true)) (hn : ¬ GoodX R S rs → q (.bool false)) : c_l_good [MX R S rs] q := by
  refine u_l_good ?_
  have hml : (rs.map rX).length = rs.length := List.length_map _
  dsimp only [fnc, d_l_good, dSeq, dIf, dOr, dNext]
  refine chainN (i := 1) (j := 6) (x := R) ?_ (fun h1 => ?_) fun h1 => ⟨fun _ => ⟨fun _ => hn fun g => h1 g.r, fun z => nomatch z⟩, fun z => nomatch z⟩
  · exact fun K hK => hK
  refine ⟨fun z => (nomatch z), fun _ => ?_⟩
  refine chainN (i := 2) (j := 4) (x := S) ?_ (fun h2 => ?_) fun h2 => ⟨fun _ => ⟨fun _ => hn fun g => h2 g.s, fun z => nomatch z⟩, fun z => nomatch z⟩
  · exact fun K hK => hK
  refine ⟨fun z => (nomatch z), fun _ => ?_⟩
  refine ⟨cm (by omega) (by omega), fun z => ?_, fun z => ?_⟩
  · have z' : (!decide (((rs.map rX).length : Int) = R * S)) = true := z
    rw [hml] at z'
    refine hn fun g => ?_
    rw [decide_eq_true g.l] at z'
    cases z'
  have z' : (!decide (((rs.map rX).length : Int) = R * S)) = false := z
  rw [hml] at z'
  have h3 : (rs.length : Int) = R * S := by
    by_cases e : (rs.length : Int) = R * S
    · exact e
    · rw [decide_eq_false e] at z'
      cases z'
  refine ⟨fun i env => (∃ k : Option Sl, env = [some (.val (MX R S rs)), k]) ∧ ∀ r ∈ rs.take i, okR R S r, ⟨⟨none, rfl⟩, fun r hr => nomatch hr⟩, ?_, ?_⟩
  · rintro i y env hx ⟨⟨k, rfl⟩, hok⟩
    rw [List.getElem?_map] at hx
    cases hr : rs[i]? with
    | none => rw [hr] at hx; cases hx
    | some r =>
      rw [hr] at hx
      have hx' := Option.some.inj hx
      subst hx'
      have hi := (List.getElem?_eq_some_iff.mp hr).1
      have hri : rs[i] = r := by
        rw [List.getElem?_eq_getElem hi] at hr
        exact Option.some.inj hr
      have hsn := takeX hi
      rw [hri] at hsn
      have next : okR R S r → ∀ r' ∈ rs.take (i + 1), okR R S r' := fun hk r' h' => by
        rw [hsn] at h'
        rcases List.mem_append.mp h' with h' | h'
        · exact hok r' h'
        · rcases List.mem_singleton.mp h' with rfl
          exact hk
      have bad : ¬ okR R S r → q (.bool false) := fun hk => hn fun g => hk (g.ok r (List.mem_of_getElem? hr))
      cases r with
      | none => exact ⟨fun z => (nomatch z), fun _ => ⟨⟨some (.val .none), rfl⟩, next trivial⟩⟩
      | some t =>
        obtain ⟨a, b, c⟩ := t
        refine ⟨fun _ => ?_, fun z => nomatch z⟩
        refine ⟨a, [b, c], rfl, fun m => ?_, fun m => ⟨fun m2 => ?_, fun m2 => ⟨fun m3 => ?_, fun m3 => ⟨fun m4 => ?_, fun m4 => ?_⟩⟩⟩⟩
        · have m' := (min3 a b c).mp (of_decide_eq_true m)
          exact ⟨fun _ => bad fun z => by (rcases z with ⟨z1, z2, z3⟩; omega), fun z => nomatch z⟩
        · have m' : S ≤ a := of_decide_eq_true m2
          exact ⟨fun _ => bad fun z => by (rcases z with ⟨z1, z2, z3⟩; omega), fun z => nomatch z⟩
        · have m' : (1 : Int) < b := of_decide_eq_true m3
          exact ⟨fun _ => bad fun z => by (rcases z with ⟨z1, z2, z3⟩; omega), fun z => nomatch z⟩
        · have m' : R ≤ c := of_decide_eq_true m4
          exact bad fun z => by rcases z with ⟨z1, z2, z3⟩; omega
        · have n0 : ¬ PySem.W.minOf a [b, c] < 0 := of_decide_eq_false m
          have na : ¬ a < 0 := fun z => n0 ((min3 a b c).mpr (.inl z))
          have nb : ¬ b < 0 := fun z => n0 ((min3 a b c).mpr (.inr (.inl z)))
          have nc : ¬ c < 0 := fun z => n0 ((min3 a b c).mpr (.inr (.inr z)))
          have n2 : ¬ S ≤ a := of_decide_eq_false m2
          have n3 : ¬ (1 : Int) < b := of_decide_eq_false m3
          have n4 : ¬ R ≤ c := of_decide_eq_false m4
          exact ⟨⟨_, rfl⟩, next ⟨⟨by omega, by omega⟩, ⟨by omega, by omega⟩, ⟨by omega, by omega⟩⟩⟩
  · rintro env ⟨⟨k, rfl⟩, hok⟩
    rw [List.length_map, List.take_length] at hok
    exact hy ⟨h1, h2, h3, hok⟩
end DL
namespace DL
open PySem PySem.Spec PyProof.Rows L2
open TL
/-! ### a note's words: one figure, one rule -/
theorem one_of {w : Str} (h : w.length = 1) : ∃ c, w = ⟨#[c]⟩ := by
  obtain ⟨l, rfl⟩ : ∃ l : List Nat, w = ⟨l.toArray⟩ := ⟨w.cps.toList, rfl⟩
  match l, h with
  | [c], _ => exact ⟨c, rfl⟩
theorem two_of {w : Str} (h : w.length = 2) : ∃ a b, w = ⟨#[a, b]⟩ := by
  obtain ⟨l, rfl⟩ : ∃ l : List Nat, w = ⟨l.toArray⟩ := ⟨w.cps.toList, rfl⟩
  match l, h with
  | [a, b], _ => exact ⟨a, b, rfl⟩
theorem three_of {w : Str} (h : w.length = 3) : ∃ a b c, w = ⟨#[a, b, c]⟩ := by
  obtain ⟨l, rfl⟩ : ∃ l : List Nat, w = ⟨l.toArray⟩ := ⟨w.cps.toList, rfl⟩
  match l, h with
  | [a, b, c], _ => exact ⟨a, b, c, rfl⟩
theorem figs_list : ("0123456789" : Str).cps.toList = [48, 49, 50, 51, 52, 53, 54, 55, 56, 57] := by decide +kernel
theorem ars_list : ("<>" : Str).cps.toList = [60, 62] := by decide +kernel
theorem fig_one {c : Nat} (h : (Builtin.Str.occurrences ("0123456789" : Str) ⟨#[c]⟩ 0 ("0123456789" : Str).length 1).isEmpty = false) : ∃ n, n < 10 ∧ c = 48 + n := by
  have e := PySem.StrLaws.found_one ("0123456789" : Str) c
  rw [h] at e
  have m : c ∈ ("0123456789" : Str).cps.toList := of_decide_eq_true e.symm
  rw [figs_list] at m
  simp only [List.mem_cons, List.not_mem_nil, or_false] at m
  exact ⟨c - 48, by omega, by omega⟩
theorem ar_one {c : Nat} (h : (Builtin.Str.occurrences ("<>" : Str) ⟨#[c]⟩ 0 ("<>" : Str).length 1).isEmpty = false) : ∃ n, n < 2 ∧ c = 60 + 2 * n := by
  have e := PySem.StrLaws.found_one ("<>" : Str) c
  rw [h] at e
  have m : c ∈ ("<>" : Str).cps.toList := of_decide_eq_true e.symm
  rw [ars_list] at m
  simp only [List.mem_cons, List.not_mem_nil, or_false] at m
  rcases m with rfl | rfl
  · exact ⟨0, by omega, rfl⟩
  · exact ⟨1, by omega, rfl⟩
theorem nn {b : Bool} (h : (!b) = true) : b = false := by cases b <;> first | rfl | cases h
theorem nn2 {b : Bool} (h : (!(!b)) = false) : b = false := by cases b <;> first | rfl | cases h
theorem nn3 {b : Bool} (h : (!(!b)) = true) : b = true := by cases b <;> first | rfl | cases h
theorem nn4 {b : Bool} (h : (!b) = false) : b = true := by cases b <;> first | rfl | cases h
theorem len1_int {w : Str} : ((w.length : Nat) : Int) = 1 ↔ w.length = 1 := by omega
theorem e_figX {w : Str} {q : PyData → Prop} {x : Str → Prop} (hb : w.length ≤ sizeLine) (hy : ∀ n, n < 10 → w = sg n → q (.int (n : Nat))) (hn : (∀ n, n < 10 → w ≠ sg n) → x "NoNote") : cx_p_figure [.str w] q x := by
  refine ux_p_figure ⟨hb, fun z => ?_, fun z => ⟨fun z2 => ?_, fun z2 => ?_⟩⟩
  · have z' : ¬ ((w.length : Nat) : Int) = 1 := of_decide_eq_false (nn z)
    refine ⟨fun _ => hn fun n _ e => z' ?_, fun y => nomatch y⟩
    subst e
    rfl
  · have z' := nn3 z2
    refine hn fun n h e => ?_
    subst e
    have := fig_in n h
    rw [this] at z'
    cases z'
  · have z' : ((w.length : Nat) : Int) = 1 := of_decide_eq_true (nn4 z)
    obtain ⟨c, rfl⟩ := one_of (len1_int.mp z')
    obtain ⟨n, h, rfl⟩ := fig_one (nn2 z2)
    have go : q (.int (Txt.find ("0123456789" : Str) (sg n))) := by
      rw [fig_find n h]
      exact hy n h rfl
    exact go
theorem e_lfig {w : Str} {q : PyData → Prop} (hb : w.length ≤ sizeLine) (hy : ∀ n, n < 10 → w = sg n → q (.int (n : Nat))) (hn : (∀ n, n < 10 → w ≠ sg n) → q (.int (-1))) : c_l_figure [.str w] q := by
  refine u_l_figure ⟨hb, fun z => ⟨fun z2 => ?_, fun z2 => ?_⟩, fun z => ⟨fun z2 => (nomatch z2), fun _ => hn fun n _ e => ?_⟩⟩
  · have z' : ((w.length : Nat) : Int) = 1 := of_decide_eq_true z
    obtain ⟨c, rfl⟩ := one_of (len1_int.mp z')
    obtain ⟨n, h, rfl⟩ := fig_one (nn z2)
    have go : q (.int (Txt.find ("0123456789" : Str) (sg n))) := by
      rw [fig_find n h]
      exact hy n h rfl
    exact go
  · refine hn fun n h e => ?_
    subst e
    have z' : (!(Builtin.Str.occurrences ("0123456789" : Str) (sg n) 0 ("0123456789" : Str).length 1).isEmpty) = false := z2
    rw [fig_in n h] at z'
    cases z'
  · have z' : ¬ ((w.length : Nat) : Int) = 1 := of_decide_eq_false z
    subst e
    exact z' rfl
def r10 : Rule → Prop
  | none => True
  | some (a, d, c) => a < 10 ∧ d < 2 ∧ c < 10
def nX : Rule → RX
  | none => none
  | some (a, d, c) => some ((a : Int), (d : Int), (c : Int))
theorem rX_nX (r : Rule) : rX (nX r) = ruleD r := by
  cases r with
  | none => rfl
  | some t => rfl
theorem sg_inj {m n : Nat} (h : sg m = sg n) : m = n := by
  have h1 : ([48 + m] : List Nat) = [48 + n] := congrArg (fun z : Str => z.cps.toList) h
  simp at h1
  exact h1
theorem wS_inj {r r' : Rule} (h : r10 r) (h' : r10 r') (e : wS r = wS r') : r = r' := by
  have e1 : (wS r).cps.toList = (wS r').cps.toList := by rw [e]
  cases r with
  | none =>
    cases r' with
    | none => rfl
    | some t =>
      obtain ⟨a, d, c⟩ := t
      have e2 : ([45] : List Nat) = [48 + a, 60 + 2 * d, 48 + c] := e1
      simp at e2
  | some t =>
    obtain ⟨a, d, c⟩ := t
    cases r' with
    | none =>
      have e2 : [48 + a, 60 + 2 * d, 48 + c] = ([45] : List Nat) := e1
      simp at e2
    | some t' =>
      obtain ⟨a', d', c'⟩ := t'
      have e2 : [48 + a, 60 + 2 * d, 48 + c] = [48 + a', 60 + 2 * d', 48 + c'] := e1
      simp at e2
      obtain ⟨e3, e4, e5⟩ := e2
      have e4' : d = d' := by omega
      subst e3 e4' e5
      rfl
theorem wS_dash {r : Rule} (h : wS r = "-") : r = none := by
  cases r with
  | none => rfl
  | some t =>
    exact absurd (congrArg Str.length (h.trans dash.symm)) (by obtain ⟨a, d, c⟩ := t; exact (by decide : ¬ (3 = 1)))
theorem wS_not3 {r : Rule} {w : Str} (e : w = wS r) (hl : ¬ w.length = 3) : r = none := by
  cases r with
  | none => rfl
  | some t =>
    subst e
    exact absurd rfl hl
theorem e_rrX {w : Str} {q : PyData → Prop} {x : Str → Prop} (hb : w.length ≤ sizeLine) (hy : ∀ r, r10 r → w = wS r → q (ruleD r)) (hn : (∀ r, r10 r → w ≠ wS r) → x "NoNote") : cx_p_rule_read [.str w] q x := by
  refine ux_p_rule_read ⟨fun z => ?_, fun z => ?_⟩
  · have z' : w = "-" := of_decide_eq_true z
    exact hy none trivial (z'.trans dash.symm)
  · have z' : ¬ w = "-" := of_decide_eq_false z
    have nd : ∀ r, r10 r → w = wS r → r ≠ none := fun r _ e er => z' (by rw [e, er]; exact dash)
    refine ⟨hb, fun z2 => ?_, fun z2 => ?_⟩
    · have hl : ¬ w.length = 3 := fun e => (of_decide_eq_false (nn z2) : ¬ ((w.length : Nat) : Int) = 3) (by omega)
      exact ⟨fun _ => hn fun r h e => nd r h e (wS_not3 e hl), fun y => nomatch y⟩
    · have hl : w.length = 3 := by
        have := (of_decide_eq_true (nn4 z2) : ((w.length : Nat) : Int) = 3)
        omega
      obtain ⟨a, b, c, rfl⟩ := three_of hl
      refine ⟨hb, fun z3 => ?_, fun z3 => ?_⟩
      · have z3' := nn3 z3
        refine hn fun r h e => ?_
        cases r with
        | none => exact nd none trivial e rfl
        | some t =>
          obtain ⟨a', d', c'⟩ := t
          have e2 : [a, b, c] = [48 + a', 60 + 2 * d', 48 + c'] := congrArg (fun z : Str => z.cps.toList) e
          simp at e2
          have := ar_in d' h.2.1
          have z4 : (Builtin.Str.occurrences ("<>" : Str) ⟨#[b]⟩ 0 ("<>" : Str).length 1).isEmpty = true := z3'
          rw [e2.2.1] at z4
          have z5 : (Builtin.Str.occurrences ("<>" : Str) (ar d') 0 ("<>" : Str).length 1).isEmpty = true := z4
          rw [this] at z5
          cases z5
      · obtain ⟨d, hd, rfl⟩ := ar_one (nn2 z3)
        refine ⟨hb, ?_⟩
        refine e_figX (w := ⟨#[a]⟩) (Nat.le_trans (show 1 ≤ 1000 by decide) big) (fun n h e => ?_) fun h => hn fun r hr e => ?_
        · have ea : ([a] : List Nat) = [48 + n] := congrArg (fun z : Str => z.cps.toList) e
          simp at ea
          subst ea
          refine ⟨hb, hb, ?_⟩
          refine e_figX (w := ⟨#[c]⟩) (Nat.le_trans (show 1 ≤ 1000 by decide) big) (fun m h' e' => ?_) fun h' => hn fun r hr e' => ?_
          · have ec : ([c] : List Nat) = [48 + m] := congrArg (fun z : Str => z.cps.toList) e'
            simp at ec
            subst ec
            have go : q (.tuple [.int (n : Nat), .int (Txt.find ("<>" : Str) (ar d)), .int (m : Nat)]) := by
              rw [ar_find d hd]
              exact hy (some (n, d, m)) ⟨h, hd, h'⟩ rfl
            exact go
          · cases r with
            | none => exact nd none trivial e' rfl
            | some t =>
              obtain ⟨a', d', c'⟩ := t
              have e2 : [48 + n, 60 + 2 * d, c] = [48 + a', 60 + 2 * d', 48 + c'] := congrArg (fun z : Str => z.cps.toList) e'
              simp at e2
              exact h' c' hr.2.2 (by rw [e2.2.2]; rfl)
        · cases r with
          | none => exact nd none trivial e rfl
          | some t =>
            obtain ⟨a', d', c'⟩ := t
            have e2 : [a, 60 + 2 * d, c] = [48 + a', 60 + 2 * d', 48 + c'] := congrArg (fun z : Str => z.cps.toList) e
            simp at e2
            exact h a' hr.1 (by rw [e2.1]; rfl)
end DL
namespace DL
open PySem PySem.Spec PyProof.Rows L2
open TL
/-! ### the law's own reading of a word; lists of words -/
def FV (w : Str) (v : Int) : Prop := (∃ n : Nat, n < 10 ∧ w = sg n ∧ v = (n : Int)) ∨ ((∀ n, n < 10 → w ≠ sg n) ∧ v = -1)
theorem FV.of {w : Str} {v : Int} {n : Nat} (h : FV w v) (hn : n < 10) (e : w = sg n) : v = (n : Int) := by
  rcases h with ⟨m, _, e', rfl⟩ | ⟨h, _⟩
  · rw [sg_inj (e'.symm.trans e)]
  · exact absurd e (h n hn)
theorem FV.nat {w : Str} {v : Int} (h : FV w v) (h0 : 0 ≤ v) : ∃ n : Nat, n < 10 ∧ w = sg n ∧ v = (n : Int) := by
  rcases h with h | ⟨_, rfl⟩
  · exact h
  · omega
theorem FV.le {w : Str} {v : Int} (h : FV w v) : -1 ≤ v ∧ v < 10 := by
  rcases h with ⟨n, h, _, rfl⟩ | ⟨_, rfl⟩ <;> omega
theorem e_lfigV {w : Str} {q : PyData → Prop} (hb : w.length ≤ sizeLine) (h : ∀ v, FV w v → q (.int v)) : c_l_figure [.str w] q :=
  e_lfig hb (fun n hn e => h _ (.inl ⟨n, hn, e, rfl⟩)) fun hn => h _ (.inr ⟨hn, rfl⟩)
theorem wS3 {a b c : Nat} {r : Rule} (e : (⟨#[a, b, c]⟩ : Str) = wS r) : ∃ x d y, r = some (x, d, y) ∧ a = 48 + x ∧ b = 60 + 2 * d ∧ c = 48 + y := by
  have e1 : [a, b, c] = (wS r).cps.toList := congrArg (fun z : Str => z.cps.toList) e
  cases r with
  | none =>
    have e2 : [a, b, c] = [45] := e1
    simp at e2
  | some t =>
    obtain ⟨x, d, y⟩ := t
    have e2 : [a, b, c] = [48 + x, 60 + 2 * d, 48 + y] := e1
    simp at e2
    exact ⟨x, d, y, rfl, e2.1, e2.2.1, e2.2.2⟩
theorem chainNT {env : En} {i x y : Int} {m n : DE PyData} {q : Bool → Prop} (hx : ∀ K : PyData → Prop, K (.int x) → m env K) (hy : ∀ K : PyData → Prop, K (.int y) → n env K) (h1 : i ≤ x ∧ x < y → q false) (h0 : ¬ (i ≤ x ∧ x < y) → q true) : dNot (dB (dChain fLe fLt (dC (.int i)) m n)) env q := by
  refine chainV (q := fun d => match d with
    | .bool b => q (!b)
    | _ => False) hx hy ?_
  by_cases h : i ≤ x ∧ x < y
  · rw [decide_eq_true h]; exact h1 h
  · rw [decide_eq_false h]; exact h0 h
theorem one_le : 1 ≤ sizeLine := Nat.le_trans (show 1 ≤ 1000 by decide) big
theorem e_lrule {w : Str} {R S : Int} {q : PyData → Prop} (hb : w.length ≤ sizeLine) (hy : ∀ r, r10 r → w = wS r → okR R S (nX r) → q (ruleD r)) (hn : (∀ r, r10 r → w = wS r → ¬ okR R S (nX r)) → q (.tuple [])) : c_l_rule [.str w, .int R, .int S] q := by
  refine u_l_rule ⟨fun z => ?_, fun z => ?_⟩
  · have z' : w = "-" := of_decide_eq_true z
    exact hy none trivial (z'.trans dash.symm) trivial
  have z' : ¬ w = "-" := of_decide_eq_false z
  have nd : ∀ r, r10 r → w = wS r → r ≠ none := fun r _ e er => z' (by rw [e, er]; exact dash)
  refine ⟨hb, fun z2 => ?_, fun z2 => ?_⟩
  · have hl : ¬ w.length = 3 := fun e => (of_decide_eq_false (nn z2) : ¬ ((w.length : Nat) : Int) = 3) (by omega)
    exact ⟨fun _ => hn fun r h e => absurd (wS_not3 e hl) (nd r h e), fun y => nomatch y⟩
  have hl : w.length = 3 := by
    have := (of_decide_eq_true (nn4 z2) : ((w.length : Nat) : Int) = 3)
    omega
  obtain ⟨a, b, c, rfl⟩ := three_of hl
  refine ⟨hb, fun z3 => ?_, fun z3 => ?_⟩
  · have z4 : (Builtin.Str.occurrences ("<>" : Str) ⟨#[b]⟩ 0 ("<>" : Str).length 1).isEmpty = true := nn3 z3
    refine hn fun r h e => ?_
    obtain ⟨x, d, y, rfl, e1, rfl, e3⟩ := wS3 e
    have z5 : (Builtin.Str.occurrences ("<>" : Str) (ar d) 0 ("<>" : Str).length 1).isEmpty = true := z4
    rw [ar_in d h.2.1] at z5
    cases z5
  obtain ⟨d, hd, rfl⟩ := ar_one (nn2 z3)
  refine ⟨hb, e_lfigV (w := ⟨#[a]⟩) one_le fun v0 h0 => ?_⟩
  refine ⟨hb, hb, e_lfigV (w := ⟨#[c]⟩) one_le fun v2 h2 => ?_⟩
  dsimp only [dNil, dSeq, dIf, dOr, dNext]
  refine chainNT (i := 0) (x := v0) (y := S) ?_ ?_ (fun c1 => ⟨fun y => (nomatch y), fun _ => ?_⟩) fun c1 => ⟨fun _ => ⟨fun _ => hn fun r h e k => ?_, fun y => nomatch y⟩, fun y => nomatch y⟩
  · exact fun K hK => hK
  · exact fun K hK => hK
  · refine chainNT (i := 0) (x := v2) (y := R) ?_ ?_ (fun c2 => ⟨fun y => (nomatch y), fun _ => ?_⟩) fun c2 => ⟨fun _ => hn fun r h e k => ?_, fun y => nomatch y⟩
    · exact fun K hK => hK
    · exact fun K hK => hK
    · obtain ⟨n, hn', en, rfl⟩ := h0.nat c1.1
      obtain ⟨m, hm', em, rfl⟩ := h2.nat c2.1
      have ea : ([a] : List Nat) = [48 + n] := congrArg (fun z : Str => z.cps.toList) en
      have ec : ([c] : List Nat) = [48 + m] := congrArg (fun z : Str => z.cps.toList) em
      simp at ea ec
      subst ea ec
      have go : q (.tuple [.int (n : Nat), .int (Txt.find ("<>" : Str) (ar d)), .int (m : Nat)]) := by
        rw [ar_find d hd]
        exact hy (some (n, d, m)) ⟨hn', hd, hm'⟩ rfl ⟨c1, ⟨by omega, by omega⟩, c2⟩
      exact go
    · obtain ⟨x, d', y, rfl, _, _, rfl⟩ := wS3 e
      rw [h2.of h.2.2 rfl] at c2
      exact c2 k.2.2
  · obtain ⟨x, d', y, rfl, rfl, _, _⟩ := wS3 e
    rw [h0.of h.1 rfl] at c1
    exact c1 k.1
/-! the law's list of rules -/
def LR1 (R S : Int) (w : Str) (d : PyData) : Prop := (∃ r, r10 r ∧ w = wS r ∧ okR R S (nX r) ∧ d = ruleD r) ∨ ((∀ r, r10 r → w = wS r → ¬ okR R S (nX r)) ∧ d = .tuple [])
def LR (R S : Int) : List Str → List PyData → Prop
  | [], [] => True
  | w :: ws, d :: ds => LR1 R S w d ∧ LR R S ws ds
  | _, _ => False
theorem lcGo_LR {R S : Int} {j : Nat} {de : DE PyData} {env : En} (hde : ∀ w K, c_l_rule [.str w, .int R, .int S] K → de (env.set j (some (.val (.str w)))) K) : ∀ (ws : List Str) (acc : List PyData) (q : List PyData → Prop), (∀ w ∈ ws, w.length ≤ sizeLine) → (∀ ds, LR R S ws ds → q (acc ++ ds)) → lcGo j dTrue de env (ws.map PyData.str) acc q
  | [], acc, q, _, h => by
    have := h [] trivial
    rw [List.append_nil] at this
    exact this
  | w :: ws, acc, q, hb, h => by
    refine ⟨fun _ => hde w _ ?_, fun z => nomatch z⟩
    have go : ∀ d, LR1 R S w d → lcGo j dTrue de env (ws.map PyData.str) (acc ++ [d]) q := fun d hd => lcGo_LR hde ws (acc ++ [d]) q (fun y hy => hb y (List.mem_cons_of_mem _ hy)) fun ds hds => by
      have := h (d :: ds) ⟨hd, hds⟩
      rw [List.append_assoc]
      exact this
    exact e_lrule (hb w List.mem_cons_self) (fun r h1 h2 h3 => go _ (.inl ⟨r, h1, h2, h3, rfl⟩)) fun hn => go _ (.inr ⟨hn, rfl⟩)
theorem eqv_rule {r : Rule} : PyData.eqv (ruleD r) (.tuple []) = false := by
  cases r with
  | none => rfl
  | some t => obtain ⟨a, d, c⟩ := t; rfl
theorem LR.split {R S : Int} : ∀ {ws : List Str} {ds : List PyData}, LR R S ws ds → (∃ rs : List Rule, ws = rs.map wS ∧ ds = rs.map ruleD ∧ (∀ r ∈ rs, r10 r ∧ okR R S (nX r)) ∧ (ds.any fun z => PyData.eqv z (.tuple [])) = false) ∨
    ((ds.any fun z => PyData.eqv z (.tuple [])) = true ∧ ∀ rs : List Rule, ws = rs.map wS → (∀ r ∈ rs, r10 r) → ¬ ∀ r ∈ rs, okR R S (nX r))
  | [], [], _ => .inl ⟨[], rfl, rfl, fun r h => (nomatch h), rfl⟩
  | [], _ :: _, h => h.elim
  | _ :: _, [], h => h.elim
  | w :: ws, d :: ds, ⟨h1, h2⟩ => by
    rcases h1 with ⟨r, a1, a2, a3, rfl⟩ | ⟨hn, rfl⟩
    · rcases LR.split h2 with ⟨rs, rfl, rfl, b1, b2⟩ | ⟨b1, b2⟩
      · refine .inl ⟨r :: rs, by rw [a2]; rfl, rfl, fun r' h' => ?_, ?_⟩
        · rcases List.mem_cons.mp h' with rfl | h'
          · exact ⟨a1, a3⟩
          · exact b1 r' h'
        · rw [List.any_cons, eqv_rule, b2]; rfl
      · refine .inr ⟨by rw [List.any_cons, b1, Bool.or_true], fun rs e h10 k => ?_⟩
        cases rs with
        | nil => cases e
        | cons r' rs =>
          rw [List.map_cons] at e
          injection e with e1 e2
          exact b2 rs e2 (fun y hy => h10 y (List.mem_cons_of_mem _ hy)) fun y hy => k y (List.mem_cons_of_mem _ hy)
    · refine .inr ⟨rfl, fun rs e h10 k => ?_⟩
      cases rs with
      | nil => cases e
      | cons r' rs =>
        rw [List.map_cons] at e
        injection e with e1 e2
        exact hn r' (h10 r' List.mem_cons_self) e1 (k r' List.mem_cons_self)
theorem LR.len {R S : Int} : ∀ {ws : List Str} {ds : List PyData}, LR R S ws ds → ds.length = ws.length
  | [], [], _ => rfl
  | [], _ :: _, h => h.elim
  | _ :: _, [], h => h.elim
  | w :: ws, d :: ds, ⟨_, h2⟩ => by rw [List.length_cons, List.length_cons, LR.len h2]
/-! the program's -/
theorem lcGoX_R {j : Nat} {dx : DX PyData} {env : En} {q : List PyData → Prop} {x : Str → Prop} (hdx : ∀ w K, cx_p_rule_read [.str w] K x → dx (env.set j (some (.val (.str w)))) K x) : ∀ (ws : List Str) (acc : List PyData), (∀ w ∈ ws, w.length ≤ sizeLine) →
    (∀ rs : List Rule, ws = rs.map wS → (∀ r ∈ rs, r10 r) → q (acc ++ rs.map ruleD)) → ((∀ rs : List Rule, ws = rs.map wS → ¬ ∀ r ∈ rs, r10 r) → x "NoNote") → lcGoX j dx env q x (ws.map PyData.str) acc
  | [], acc, _, h, _ => by
    have := h [] rfl fun r hr => nomatch hr
    rw [List.map_nil, List.append_nil] at this
    exact this
  | w :: ws, acc, hb, h, hn => by
    refine hdx w _ (e_rrX (hb w List.mem_cons_self) (fun r h1 h2 => lcGoX_R hdx ws (acc ++ [ruleD r]) (fun y hy => hb y (List.mem_cons_of_mem _ hy)) (fun rs e h10 => ?_) fun k => hn fun rs e h10 => ?_) fun k => hn fun rs e h10 => ?_)
    · have := h (r :: rs) (by rw [List.map_cons, ← e, h2]) fun r' h' => by
        rcases List.mem_cons.mp h' with rfl | h'
        · exact h1
        · exact h10 r' h'
      rw [List.append_assoc]
      exact this
    · cases rs with
      | nil => cases e
      | cons r' rs =>
        rw [List.map_cons] at e
        injection e with e1 e2
        exact k rs e2 fun y hy => h10 y (List.mem_cons_of_mem _ hy)
    · cases rs with
      | nil => cases e
      | cons r' rs =>
        rw [List.map_cons] at e
        injection e with e1 e2
        exact k r' (h10 r' List.mem_cons_self) e1
end DL
namespace DL
open PySem PySem.Spec PyProof.Rows L2
open TL
/-! ### a text that is split -/
theorem spl_parts (S : List Nat) : ∀ (l : List Nat) (k : Nat) (acc : List Nat), (∀ p ∈ spl S k acc l, p.length ≤ acc.length + l.length) ∧ (spl S k acc l).length ≤ l.length + 1
  | [], k, acc => by
    rw [spl_nil]
    refine ⟨fun p hp => ?_, Nat.le_refl _⟩
    rw [List.mem_singleton.mp hp]
    exact Nat.le_refl _
  | c :: r, 0, acc => by
    cases h : pre S (c :: r) with
    | true =>
      rw [spl_hit h]
      obtain ⟨h1, h2⟩ := spl_parts S r (S.length - 1) []
      refine ⟨fun p hp => ?_, by rw [List.length_cons, List.length_cons]; omega⟩
      rcases List.mem_cons.mp hp with rfl | hp
      · exact Nat.le_add_right _ _
      · have := h1 p hp
        rw [List.length_nil] at this
        rw [List.length_cons]
        omega
    | false =>
      rw [spl_miss h]
      obtain ⟨h1, h2⟩ := spl_parts S r 0 (acc ++ [c])
      refine ⟨fun p hp => ?_, by rw [List.length_cons]; omega⟩
      have := h1 p hp
      rw [List.length_append, List.length_singleton] at this
      rw [List.length_cons]
      omega
  | c :: r, k + 1, acc => by
    obtain ⟨h1, h2⟩ := spl_parts S r k acc
    have e : spl S (k + 1) acc (c :: r) = spl S k acc r := rfl
    rw [e]
    refine ⟨fun p hp => ?_, by rw [List.length_cons]; omega⟩
    have := h1 p hp
    rw [List.length_cons]
    omega
theorem split_parts (t : Str) : (∀ w ∈ Txt.split t " ", w.length ≤ t.length) ∧ (Txt.split t " ").length ≤ t.length + 1 := by
  rw [sp_tl]
  have e := split_spl t ⟨#[32]⟩ (by show ([32] : List Nat) ≠ []; simp) (kind_ok (by decide +kernel))
  obtain ⟨h1, h2⟩ := spl_parts (tl ⟨#[32]⟩) (tl t) 0 []
  rw [← e] at h1 h2
  rw [List.length_map, ← len_tl] at h2
  refine ⟨fun w hw => ?_, h2⟩
  have := h1 (tl w) (List.mem_map.mpr ⟨w, hw, rfl⟩)
  rw [List.length_nil, Nat.zero_add, ← len_tl, ← len_tl] at this
  exact this
/-! ### the head of a note -/
abbrev dHd : DE Bool := dOr (dB (d2 fLt (dF fLen (dCons (dVU 1) dNil)) (dC (.int 2)))) (dOr (dB (d2 fNe (dF fLen (dCons (d2 fIx (dV 1) (dC (.int 1))) dNil)) (dC (.int 2)))) (dB (d2 fNe (d2 fIx (d2 fIx (dV 1) (dC (.int 1))) (dC (.int 1))) (dC (.str ":")))))
theorem colon2 : (":" : Str) = ⟨#[58]⟩ := by decide +kernel
theorem head_or {a0 : Option Sl} {r : En} {ws : List Str} {K : Bool → Prop} (hb : ∀ w ∈ ws, w.length ≤ sizeLine) (hy : ∀ w0 c rest, ws = w0 :: ⟨#[c, 58]⟩ :: rest → K false) (hn : (∀ w0 c rest, ws ≠ w0 :: ⟨#[c, 58]⟩ :: rest) → K true) :
    dHd (a0 :: some (.val (.list (ws.map PyData.str))) :: r) K := by
  match ws, hb, hy, hn with
  | [], hb, hy, hn => exact ⟨fun _ => hn fun _ _ _ e => (nomatch e), fun z => nomatch z⟩
  | [w0], hb, hy, hn => exact ⟨fun _ => hn fun _ _ _ e => (nomatch e), fun z => nomatch z⟩
  | w0 :: w1 :: rest, hb, hy, hn =>
    have h1 : w1.length ≤ sizeLine := hb w1 (List.mem_cons_of_mem _ List.mem_cons_self)
    refine ⟨fun z => ?_, fun _ => ?_⟩
    · have z' : ((((w0 :: w1 :: rest).map PyData.str).length : Nat) : Int) < 2 := of_decide_eq_true z
      rw [List.length_map, List.length_cons, List.length_cons] at z'
      omega
    refine ixL_nat (j := 1) (d := .str w1) rfl ⟨h1, fun z => ?_, fun z => ?_⟩
    · have z' : ¬ ((w1.length : Nat) : Int) = 2 := of_decide_eq_false (nn z)
      refine hn fun _ c _ e => z' ?_
      have e1 : w1 = ⟨#[c, 58]⟩ := by injection e with _ e; injection e
      rw [e1]
      rfl
    · have hl : w1.length = 2 := by
        have := (of_decide_eq_true (nn4 z) : ((w1.length : Nat) : Int) = 2)
        omega
      obtain ⟨c, b, rfl⟩ := two_of hl
      refine ixL_nat (j := 1) (d := .str ⟨#[c, b]⟩) rfl ⟨h1, ?_⟩
      show K (!decide ((⟨#[b]⟩ : Str) = ":"))
      by_cases e : (⟨#[b]⟩ : Str) = ":"
      · rw [decide_eq_true e]
        rw [colon2] at e
        have eb : ([b] : List Nat) = [58] := congrArg (fun z : Str => z.cps.toList) e
        simp at eb
        subst eb
        exact hy w0 c rest rfl
      · rw [decide_eq_false e]
        refine hn fun _ c' _ e' => e ?_
        have e1 : (⟨#[c, b]⟩ : Str) = ⟨#[c', 58]⟩ := by injection e' with _ e'; injection e'
        have e2 : [c, b] = [c', 58] := congrArg (fun z : Str => z.cps.toList) e1
        simp at e2
        rw [e2.2]
        exact colon2.symm
/-- the words write that -/
structure Wr (ws : List Str) (R S : Nat) (rs : List Rule) : Prop where
  r : R < 10
  s : S < 10
  ok : ∀ r ∈ rs, r10 r
  e : ws = txL R S rs
theorem Wr.inj {ws : List Str} {R S R' S' : Nat} {rs rs' : List Rule} (h : Wr ws R S rs) (h' : Wr ws R' S' rs') : R = R' ∧ S = S' ∧ rs = rs' := by
  have e := h.e.symm.trans h'.e
  unfold txL at e
  injection e with e1 e2
  injection e2 with e2 e3
  refine ⟨sg_inj e1, ?_, ?_⟩
  · have z : [48 + S, 58] = [48 + S', 58] := congrArg (fun z : Str => z.cps.toList) e2
    simp at z
    exact z
  · have key : ∀ (a b : List Rule), (∀ r ∈ a, r10 r) → (∀ r ∈ b, r10 r) → a.map wS = b.map wS → a = b := by
      intro a
      induction a with
      | nil =>
        intro b _ _ e
        cases b with
        | nil => rfl
        | cons _ _ => cases e
      | cons x a ih =>
        intro b ha hb e
        cases b with
        | nil => cases e
        | cons y b =>
          rw [List.map_cons, List.map_cons] at e
          injection e with e1 e2
          rw [wS_inj (ha x List.mem_cons_self) (hb y List.mem_cons_self) e1, ih b (fun r hr => ha r (List.mem_cons_of_mem _ hr)) (fun r hr => hb r (List.mem_cons_of_mem _ hr)) e2]
    exact key rs rs' h.ok h'.ok e3
theorem Wr.mk' {w0 : Str} {c : Nat} {rest : List Str} {R S : Nat} {rs : List Rule} (h0 : R < 10) (h1 : S < 10) (e0 : w0 = sg R) (e1 : (⟨#[c]⟩ : Str) = sg S) (h2 : ∀ r ∈ rs, r10 r) (e2 : rest = rs.map wS) : Wr (w0 :: ⟨#[c, 58]⟩ :: rest) R S rs := by
  refine ⟨h0, h1, h2, ?_⟩
  have z : ([c] : List Nat) = [48 + S] := congrArg (fun z : Str => z.cps.toList) e1
  simp at z
  subst z e0 e2
  rfl
theorem Wr.head {w0 : Str} {c : Nat} {rest : List Str} {R S : Nat} {rs : List Rule} (h : Wr (w0 :: ⟨#[c, 58]⟩ :: rest) R S rs) : w0 = sg R ∧ (⟨#[c]⟩ : Str) = sg S ∧ rest = rs.map wS := by
  have e := h.e
  unfold txL at e
  injection e with e1 e2
  injection e2 with e2 e3
  have z : [c, 58] = [48 + S, 58] := congrArg (fun z : Str => z.cps.toList) e2
  simp at z
  subst z
  exact ⟨e1, rfl, e3⟩
theorem Wr.not {ws : List Str} (h : ∀ w0 c rest, ws ≠ w0 :: ⟨#[c, 58]⟩ :: rest) (R S : Nat) (rs : List Rule) : ¬ Wr ws R S rs := fun k => h _ _ _ k.e
theorem mD_X (R S : Nat) (rs : List Rule) : mD R S rs = MX (R : Int) (S : Int) (rs.map nX) := by
  have e : rs.map ruleD = (rs.map nX).map rX := by
    rw [List.map_map]
    exact List.map_congr_left fun r _ => (rX_nX r).symm
  unfold mD MX
  rw [e]
/-! ### shapes -/
theorem LR1.shape {R S : Int} {w : Str} {d : PyData} (h : LR1 R S w d) : d.canLay0 = true ∧ d.depth ≤ 1 := by
  rcases h with ⟨r, _, _, _, rfl⟩ | ⟨_, rfl⟩
  · cases r with
    | none => exact ⟨by simp [ruleD, PyData.canLay0], by simp [ruleD, PyData.depth]⟩
    | some t =>
      obtain ⟨a, d, c⟩ := t
      exact ⟨by simp [ruleD, PyData.canLay0, PyData.canLayAll0], by simp [ruleD, PyData.depth, PyData.depthAll]⟩
  · exact ⟨by simp [PyData.canLay0, PyData.canLayAll0], by simp [PyData.depth, PyData.depthAll]⟩
theorem LR.shape {R S : Int} : ∀ {ws : List Str} {ds : List PyData}, LR R S ws ds → PyData.canLayAll0 ds = true ∧ PyData.depthAll ds ≤ 1
  | [], [], _ => ⟨by simp [PyData.canLayAll0], by simp [PyData.depthAll]⟩
  | [], _ :: _, h => h.elim
  | _ :: _, [], h => h.elim
  | w :: ws, d :: ds, ⟨h1, h2⟩ => by
    obtain ⟨a1, a2⟩ := h1.shape
    obtain ⟨b1, b2⟩ := LR.shape h2
    refine ⟨by simp only [PyData.canLayAll0, a1, b1, Bool.and_self], ?_⟩
    simp only [PyData.depthAll]
    exact Nat.max_le.mpr ⟨a2, b2⟩
theorem LR.shaped {R S : Int} {ws : List Str} {ds : List PyData} (h : LR R S ws ds) : SeqAt.shaped (.tuple ds) = true := by
  obtain ⟨a1, a2⟩ := h.shape
  refine Bool.and_eq_true_iff.mpr ⟨by simp only [PyData.canLay0]; exact a1, decide_eq_true ?_⟩
  simp only [PyData.depth]
  omega
theorem shaped_nil : SeqAt.shaped (.tuple []) = true := by
  refine Bool.and_eq_true_iff.mpr ⟨by simp [PyData.canLay0, PyData.canLayAll0], decide_eq_true ?_⟩
  simp [PyData.depth, PyData.depthAll]
end DL
namespace DL
open PySem PySem.Spec PyProof.Rows L2
open TL
theorem cut2 {α : Type} (a b : α) (l : List α) : cutD (a :: b :: l) (some 2) none = l := by
  unfold cutD
  have e : HT.sIx (a :: b :: l).length 0 (some 2) = min 2 (a :: b :: l).length := HT.sIx_nat _ _ 2
  have h : min 2 (a :: b :: l).length = 2 := Nat.min_eq_left (by simp)
  rw [e, HT.sIx_none, h]
  refine List.take_of_length_le ?_
  simp
theorem sp_ne : ((" " : Str).length == 0) = false := by decide +kernel
theorem le_line {n : Nat} (h : n ≤ 1000) : n ≤ sizeLine := Nat.le_trans h big
theorem head_if {α : Type} {a0 : Option Sl} {r : En} {ws : List Str} {A B : DS α} {D : DEnds α} (hb : ∀ w ∈ ws, w.length ≤ sizeLine) (hy : ∀ w0 c rest, ws = w0 :: ⟨#[c, 58]⟩ :: rest → B D (a0 :: some (.val (.list (ws.map PyData.str))) :: r))
    (hn : (∀ w0 c rest, ws ≠ w0 :: ⟨#[c, 58]⟩ :: rest) → A D (a0 :: some (.val (.list (ws.map PyData.str))) :: r)) : dIf dHd A B D (a0 :: some (.val (.list (ws.map PyData.str))) :: r) :=
  head_or (K := fun c => (c = true → A D (a0 :: some (.val (.list (ws.map PyData.str))) :: r)) ∧ (c = false → B D (a0 :: some (.val (.list (ws.map PyData.str))) :: r))) hb (fun w0 c rest e => ⟨fun z => (nomatch z), fun _ => hy w0 c rest e⟩) fun h => ⟨fun _ => hn h, fun z => nomatch z⟩
/-! ### the machine that is due -/
abbrev t_due : DS PyData :=
  (dSeq (dIf (dOr (dNot (dB (dChain fLe fLe (dC (.int 1)) (dVU 2) (dC (.int 6))))) (dOr (dNot (dB (dChain fLe fLe (dC (.int 2)) (dVU 3) (dC (.int 4))))) (dB (d2 fNe (d2 fSub (dF fLen (dCons (dVU 1) dNil)) (dC (.int 2))) (d2 fMul (dVU 2) (dVU 3)))))) (dRet (dC .none)) dNext)
    (dSeq (dSet 4 (dMkT (dLc (dAsL (dAsD (dSlL (dAsL (dV 1)) (dSo (dC (.int 2))) dNo))) 5 dTrue (dF c_l_rule (dCons (dV 5) (dCons (dV 2) (dCons (dV 3) dNil)))))))
    (dSeq (dIf (dB (d2 fInT (dTup dNil) (dVU 4))) (dRet (dC .none)) dNext)
    (dRet (dTup (dCons (dV 2) (dCons (dV 3) (dCons (dV 4) dNil))))))))
abbrev t_due0 : DS PyData :=
  (dSeq (dSet 2 (dF c_l_figure (dCons (d2 fIx (dV 1) (dC (.int 0))) dNil)))
    (dSeq (dSet 3 (dF c_l_figure (dCons (d2 fIx (d2 fIx (dV 1) (dC (.int 1))) (dC (.int 0))) dNil)))
    t_due))
theorem due_tail {a0 : Option Sl} {w0 w1 : Str} {rest : List Str} {R S : Int} {q : PyData → Prop} (hb : ∀ w ∈ rest, w.length ≤ sizeLine) (hl : rest.length ≤ 1000) (hR : -1 ≤ R ∧ R < 10) (hS : -1 ≤ S ∧ S < 10)
    (hy : ∀ rs : List Rule, 0 ≤ R → 0 ≤ S → rest = rs.map wS → (∀ r ∈ rs, r10 r) → GoodX R S (rs.map nX) → q (.tuple [.int R, .int S, .tuple (rs.map ruleD)]))
    (hn : (∀ rs : List Rule, rest = rs.map wS → (∀ r ∈ rs, r10 r) → ¬ GoodX R S (rs.map nX)) → q .none) :
    t_due { nx := fun _ => False, rt := q } [a0, some (.val (.list ((w0 :: w1 :: rest).map PyData.str))), some (.val (.int R)), some (.val (.int S)), none, none] := by
  dsimp only [t_due, dSeq, dIf, dOr, dNext]
  refine chainN (i := 1) (j := 6) (x := R) ?_ (fun h1 => ⟨fun z => (nomatch z), fun _ => ?_⟩) fun h1 => ⟨fun _ => ⟨fun _ => hn fun rs _ _ g => h1 g.r, fun z => nomatch z⟩, fun z => nomatch z⟩
  · exact fun K hK => hK
  refine chainN (i := 2) (j := 4) (x := S) ?_ (fun h2 => ⟨fun z => (nomatch z), fun _ => ?_⟩) fun h2 => ⟨fun _ => ⟨fun _ => hn fun rs _ _ g => h2 g.s, fun z => nomatch z⟩, fun z => nomatch z⟩
  · exact fun K hK => hK
  have hml : ((w0 :: w1 :: rest).map PyData.str).length = rest.length + 2 := by rw [List.length_map]; rfl
  refine ⟨cm (by omega) (by omega), fun z => ?_, fun z => ?_⟩
  · have z' : ¬ ((((w0 :: w1 :: rest).map PyData.str).length : Nat) : Int) - 2 = R * S := of_decide_eq_false (nn z)
    refine hn fun rs e _ g => z' ?_
    have gl := g.l
    rw [List.length_map] at gl
    rw [hml, e, List.length_map, ← gl]
    omega
  have z' : ((((w0 :: w1 :: rest).map PyData.str).length : Nat) : Int) - 2 = R * S := of_decide_eq_true (nn4 z)
  rw [hml] at z'
  have h3 : ((rest.length : Nat) : Int) = R * S := by omega
  have main : ∀ ds : List PyData, ds = rest.map PyData.str → (ds.length ≤ 1000000 ∧ lcGo 5 dTrue (dF c_l_rule (dCons (dV 5) (dCons (dV 2) (dCons (dV 3) dNil)))) [a0, some (.val (.list ((w0 :: w1 :: rest).map PyData.str))), some (.val (.int R)), some (.val (.int S)), none, none] ds [] fun es =>
      (dSeq (dIf (dB (d2 fInT (dTup dNil) (dVU 4))) (dRet (dC .none)) dNext) (dRet (dTup (dCons (dV 2) (dCons (dV 3) (dCons (dV 4) dNil)))))) { nx := fun _ => False, rt := q } [a0, some (.val (.list ((w0 :: w1 :: rest).map PyData.str))), some (.val (.int R)), some (.val (.int S)), some (.val (.tuple es)), none]) := by
    rintro ds rfl
    refine ⟨by rw [List.length_map]; omega, lcGo_LR (R := R) (S := S) (fun w K h => h) rest [] _ hb fun es he => ?_⟩
    rw [List.nil_append]
    refine ⟨shaped_nil, he.shaped, ?_⟩
    rcases he.split with ⟨rs, e1, e2, e3, e4⟩ | ⟨e1, e2⟩
    · rw [e4]
      refine ⟨fun z => (nomatch z), fun _ => ?_⟩
      have go : q (.tuple [.int R, .int S, .tuple es]) := by
        rw [e2]
        refine hy rs (by omega) (by omega) e1 (fun r hr => (e3 r hr).1) ⟨h1, h2, ?_, fun r hr => ?_⟩
        · rw [List.length_map]
          rw [e1, List.length_map] at h3
          exact h3
        · obtain ⟨r', hr', rfl⟩ := List.mem_map.mp hr
          exact (e3 r' hr').2
      exact go
    · rw [e1]
      exact ⟨fun _ => hn fun rs e h10 g => e2 rs e h10 fun r hr => g.ok _ (List.mem_map.mpr ⟨r, hr, rfl⟩), fun z => nomatch z⟩
  exact main _ (cut2 _ _ _)
theorem e_due {t : Str} {q : PyData → Prop} (ht : t.length ≤ 900) (hy : ∀ R S rs, Wr (Txt.split t " ") R S rs → GoodX (R : Nat) (S : Nat) (rs.map nX) → q (mD R S rs)) (hn : (∀ R S rs, Wr (Txt.split t " ") R S rs → ¬ GoodX (R : Nat) (S : Nat) (rs.map nX)) → q .none) : c_l_due [.str t] q := by
  obtain ⟨hp, hl⟩ := split_parts t
  refine u_l_due ⟨sp_ne, by have := big; omega, ?_⟩
  generalize Txt.split t " " = ws at hp hl hy hn
  have hb : ∀ w ∈ ws, w.length ≤ sizeLine := fun w hw => le_line (by have := hp w hw; omega)
  show dIf dHd (dRet (dC .none)) dNext { nx := t_due0 { nx := fun _ => False, rt := q }, rt := q } [some (.val (.str t)), some (.val (.list (ws.map PyData.str))), none, none, none, none]
  refine head_if hb (fun w0 c rest e => ?_) fun h => hn fun R S rs k => absurd k (Wr.not h R S rs)
  subst e
  refine ixL_nat (j := 0) (d := .str w0) rfl (e_lfigV (hb w0 List.mem_cons_self) fun R hR => ?_)
  refine ixL_nat (j := 1) (d := .str ⟨#[c, 58]⟩) rfl ⟨hb _ (List.mem_cons_of_mem _ List.mem_cons_self), e_lfigV (w := ⟨#[c]⟩) one_le fun S hS => ?_⟩
  refine due_tail (fun w hw => hb w (List.mem_cons_of_mem _ (List.mem_cons_of_mem _ hw))) (by rw [List.length_cons, List.length_cons] at hl; omega) hR.le hS.le (fun rs h0 h1 e h10 g => ?_) fun h => hn fun R' S' rs k => ?_
  · obtain ⟨R', r1, r2, rfl⟩ := hR.nat h0
    obtain ⟨S', s1, s2, rfl⟩ := hS.nat h1
    exact hy R' S' rs (Wr.mk' r1 s1 r2 s2 h10 e) g
  · obtain ⟨k1, k2, k3⟩ := k.head
    rw [← hR.of k.r k1, ← hS.of k.s k2]
    exact h rs k3 k.ok
/-! ### the machine that is read -/
abbrev t_read0 : DS PyData := (dSetX 2 (dxTup (dxCons (dxCall cx_p_figure (dCons (d2 fIx (dV 1) (dC (.int 0))) dNil)) (dxCons (dxCall cx_p_figure (dCons (d2 fIx (d2 fIx (dV 1) (dC (.int 1))) (dC (.int 0))) dNil)) (dxCons (dxMkT (dLcX (dAsL (dAsD (dSlL (dAsL (dV 1)) (dSo (dC (.int 2))) dNo))) 4 (dxCall cx_p_rule_read (dCons (dV 4) dNil)))) dxNil)))))
abbrev t_read : DS PyData :=
  (dSeq (dSet 3 (dC (.bool true)))
    (dSeq (dTryX cx_p_looked 2 "NoMachine" (dSet 3 (dC (.bool false))))
    (dSeq (dIf (dNot (dB (dVU 3))) (dRaise "NoNote") dNext)
    (dRet (dV 2)))))
theorem read_tail {a0 a1 a3 a4 : Option Sl} {R S : Nat} {rs : List Rule} {q : PyData → Prop} {x : Str → Prop} (hR : R < 10) (hS : S < 10) (hl : rs.length ≤ 1000) (hy : GoodX (R : Nat) (S : Nat) (rs.map nX) → q (mD R S rs)) (hn : ¬ GoodX (R : Nat) (S : Nat) (rs.map nX) → x "NoNote") :
    t_read { nx := fun _ => False, rt := q, ex := x } [a0, a1, some (.val (mD R S rs)), a3, a4] := by
  have go : ∀ K X, (GoodX (R : Nat) (S : Nat) (rs.map nX) → K (.int (doesX (rs.map nX) : Nat))) → (¬ GoodX (R : Nat) (S : Nat) (rs.map nX) → X "NoMachine") → cx_p_looked [mD R S rs] K X := fun K X h1 h2 => by
    rw [mD_X]
    exact e_lookedX (by rw [List.length_map]; exact hl) (by omega) (by omega) h1 h2
  refine go _ _ (fun g => ?_) fun g => ?_
  · exact ⟨fun z => (nomatch z), fun _ => hy g⟩
  · exact ⟨rfl, fun _ => hn g, fun z => nomatch z⟩
theorem e_readX {t : Str} {q : PyData → Prop} {x : Str → Prop} (ht : t.length ≤ 900) (hy : ∀ R S rs, Wr (Txt.split t " ") R S rs → GoodX (R : Nat) (S : Nat) (rs.map nX) → q (mD R S rs)) (hn : (∀ R S rs, Wr (Txt.split t " ") R S rs → ¬ GoodX (R : Nat) (S : Nat) (rs.map nX)) → x "NoNote") : cx_p_read [.str t] q x := by
  obtain ⟨hp, hl⟩ := split_parts t
  refine ux_p_read ⟨sp_ne, by have := big; omega, ?_⟩
  generalize Txt.split t " " = ws at hp hl hy hn
  have hb : ∀ w ∈ ws, w.length ≤ sizeLine := fun w hw => le_line (by have := hp w hw; omega)
  show dIf dHd (dRaise "NoNote") dNext { nx := dSeq t_read0 t_read { nx := fun _ => False, rt := q, ex := x }, rt := q, ex := x } [some (.val (.str t)), some (.val (.list (ws.map PyData.str))), none, none, none]
  refine head_if hb (fun w0 c rest e => ?_) fun h => hn fun R S rs k => absurd k (Wr.not h R S rs)
  subst e
  refine ixL_nat (j := 0) (d := .str w0) rfl (e_figX (hb w0 List.mem_cons_self) (fun R hR e0 => ?_) fun h => hn fun R S rs k => absurd k.head.1 (h R k.r))
  refine ixL_nat (j := 1) (d := .str ⟨#[c, 58]⟩) rfl ⟨hb _ (List.mem_cons_of_mem _ List.mem_cons_self), e_figX (w := ⟨#[c]⟩) one_le (fun S hS e1 => ?_) fun h => hn fun R S rs k => absurd k.head.2.1 (h S k.s)⟩
  have main : ∀ ds : List PyData, ds = rest.map PyData.str → (ds.length ≤ 1000000 ∧ lcGoX 4 (dxCall cx_p_rule_read (dCons (dV 4) dNil)) [some (Sl.val (.str t)), some (.val (.list ((w0 :: ⟨#[c, 58]⟩ :: rest).map PyData.str))), none, none, none]
      (fun es => t_read { nx := fun _ => False, rt := q, ex := x } [some (Sl.val (.str t)), some (.val (.list ((w0 :: ⟨#[c, 58]⟩ :: rest).map PyData.str))), some (.val (.tuple [.int (R : Nat), .int (S : Nat), .tuple es])), none, none]) x ds []) := by
    rintro ds rfl
    have hrl : rest.length ≤ 1000 := by rw [List.length_cons, List.length_cons] at hl; omega
    refine ⟨by rw [List.length_map]; omega, lcGoX_R (fun w K h => h) rest [] (fun w hw => hb w (List.mem_cons_of_mem _ (List.mem_cons_of_mem _ hw))) (fun rs e h10 => ?_) fun h => hn fun R' S' rs k => absurd k.ok (h rs k.head.2.2)⟩
    rw [List.nil_append]
    have W : Wr (w0 :: ⟨#[c, 58]⟩ :: rest) R S rs := Wr.mk' hR hS e0 e1 h10 e
    refine read_tail hR hS (by rw [e, List.length_map] at hrl; exact hrl) (hy R S rs W) fun g => hn fun R' S' rs' k => ?_
    obtain ⟨i1, i2, i3⟩ := W.inj k
    subst i1 i2 i3
    exact g
  exact main _ (cut2 _ _ _)
end DL
namespace DL
open PySem PySem.Spec PyProof.Rows L2
open TL
/-! ### the note of a machine; notes that are spoiled -/
theorem e_ltext {rooms s : Nat} {rules : List Rule} {q : PyData → Prop} (g : GoodM rooms s rules) (h : q (.str (tx rooms s rules))) : c_l_text [mD rooms s rules] q := by
  refine u_l_text ?_
  have r6 := g.r6
  have s4 := g.s4
  have h24 := rules24 g
  have l1 : (" " : Str).length = 1 := by decide +kernel
  have l2 : (":" : Str).length = 1 := by decide +kernel
  have ls : ∀ n, (sg n).length = 1 := fun _ => rfl
  have la : ∀ n, (ar n).length = 1 := fun _ => rfl
  have hbig := big
  have n1 := str_num (n := rooms) (by omega)
  have n2 := str_num (n := s) (by omega)
  refine ⟨lg (n := rooms) (by omega), ?_, lg (n := s) (by omega), ?_, ?_, ?_⟩
  · show (Str.ofString (toString ((rooms : Nat) : Int))).length + _ ≤ _
    rw [n1, ls, l1]; omega
  · show (Str.ofString (toString ((rooms : Nat) : Int)) ++ " ").length + (Str.ofString (toString ((s : Nat) : Int))).length ≤ _
    rw [n1, n2, str_len_app, ls, ls, l1]; omega
  · show (Str.ofString (toString ((rooms : Nat) : Int)) ++ " " ++ Str.ofString (toString ((s : Nat) : Int))).length + _ ≤ _
    rw [n1, n2, str_len_app, str_len_app, ls, ls, l1, l2]; omega
  have e0 : Str.ofString (toString ((rooms : Nat) : Int)) ++ " " ++ Str.ofString (toString ((s : Nat) : Int)) ++ ":" = tx rooms s [] := by rw [n1, n2, tx_nil]
  refine ⟨fun i env => ∃ k w : Option Sl, env = [some (.val (mD rooms s rules)), some (.val (.str (tx rooms s (rules.take i)))), k, w], ⟨none, none, by rw [List.take_zero, ← e0]; rfl⟩, ?_, ?_⟩
  · rintro i x env hx ⟨k, w, rfl⟩
    rw [List.getElem?_map] at hx
    cases hr : rules[i]? with
    | none => rw [hr] at hx; cases hx
    | some r =>
      rw [hr] at hx
      have hx' := Option.some.inj hx
      subst hx'
      have hi := (List.getElem?_eq_some_iff.mp hr).1
      have hri : rules[i] = r := by
        rw [List.getElem?_eq_getElem hi] at hr
        exact Option.some.inj hr
      have hlen := tx_len' rooms s (rules.take i)
      rw [List.length_take] at hlen
      have hsn := take_snoc hi
      rw [hri] at hsn
      have htx := tx_snoc rooms s (rules.take i) r
      rw [← hsn] at htx
      cases r with
      | none =>
        refine ⟨fun _ => ?_, fun z => nomatch z⟩
        have l3 : (" -" : Str).length = 2 := by decide +kernel
        refine ⟨by rw [l3]; omega, some (.val .none), w, ?_⟩
        rw [htx]
        have e : (" -" : Str) = " " ++ wS none := by decide +kernel
        rw [e]
        have e2 : tx rooms s (List.take i rules) ++ (" " ++ wS none) = tx rooms s (List.take i rules) ++ " " ++ wS none := by
          refine ext_tl ?_
          simp only [tl_append, List.append_assoc]
        rw [e2]
        rfl
      | some t =>
        obtain ⟨w', d, rm⟩ := t
        obtain ⟨o1, o2, o3⟩ := g.ok w' d rm (List.mem_of_getElem? hr)
        have n3 := str_num (n := w') (by omega)
        have n4 := str_num (n := rm) (by omega)
        refine ⟨fun z => (nomatch z), fun _ => ⟨lg (n := w') (by omega), by decide +kernel, ?_⟩⟩
        rw [ar_at o2]
        have e2 : Str.ofString (toString ((w' : Nat) : Int)) ++ ar d ++ Str.ofString (toString ((rm : Nat) : Int)) = wS (some (w', d, rm)) := by rw [n3, n4, wS_some]
        refine ⟨?_, lg (n := rm) (by omega), ?_, ?_, ?_, some (.val (ruleD (some (w', d, rm)))), some (.val (.str (wS (some (w', d, rm))))), ?_⟩
        · show (Str.ofString (toString ((w' : Nat) : Int))).length + (ar d).length ≤ _
          rw [n3, ls, la]; omega
        · show (Str.ofString (toString ((w' : Nat) : Int)) ++ ar d).length + (Str.ofString (toString ((rm : Nat) : Int))).length ≤ _
          rw [n3, n4, str_len_app, ls, ls, la]; omega
        · rw [l1]; omega
        · show (tx rooms s (rules.take i) ++ " ").length + (Str.ofString (toString ((w' : Nat) : Int)) ++ ar d ++ Str.ofString (toString ((rm : Nat) : Int))).length ≤ _
          rw [e2, str_len_app, l1]
          have := wS_len (some (w', d, rm))
          omega
        · rw [htx, ← e2]
          rfl
  · rintro env ⟨k, w, rfl⟩
    rw [List.length_map, List.take_length]
    exact h
/-! ### the law's end: due and read agree -/
theorem fin_k19 {t : Str} (ht : t.length ≤ 900) (a0 a1 a3 a4 a5 a6 : Option Sl) : t_law_k19 { nx := fun _ => False, rt := fun d => d = .bool true } [a0, a1, some (.val (.str t)), a3, a4, a5, a6] := by
  refine e_due ht (fun R S rs W g => ?_) fun h => ?_
  · refine ⟨fun z => (nomatch z), fun _ => ?_⟩
    refine e_readX ht (fun R' S' rs' W' _ => ?_) fun h => absurd g (h R S rs W)
    obtain ⟨i1, i2, i3⟩ := W.inj W'
    subst i1 i2 i3
    have hl := g.l
    rw [List.length_map] at hl
    have h1 := g.r
    have h2 := g.s
    have hm : (R : Int) * (S : Int) ≤ 6 * 4 := Int.mul_le_mul h1.2 h2.2 (by omega) (by omega)
    exact e_same (n := 4) (plain_mach (n := 1) (by omega)) rfl
  · have no : ∀ q : PyData → Prop, q (.bool true) → c_l_refused_k19 [.str t] q := fun q hq =>
      u_l_refused_k19 ⟨_, rfl, e_readX ht (fun R S rs W g => absurd g (h R S rs W)) fun _ => ⟨rfl, hq⟩⟩
    exact ⟨fun _ => no _ ⟨fun _ => no _ rfl, fun z => nomatch z⟩, fun z => nomatch z⟩
/-! ### the ways to spoil it -/
theorem sum_le {B : Nat} : ∀ {ys : List Str}, (∀ y ∈ ys, y.length ≤ B) → (ys.map (·.length)).sum ≤ ys.length * B
  | [], _ => Nat.zero_le _
  | y :: ys, h => by
    have h1 := h y List.mem_cons_self
    have h2 := sum_le fun z hz => h z (List.mem_cons_of_mem y hz)
    rw [List.map_cons, List.sum_cons, List.length_cons, Nat.succ_mul]
    omega
abbrev odds : List Str := ["", "--", "1", "1>", ">1", "1>0>", "1-0", "01>0", "1>00", "a>0", "1>a", "+>0", "1>_", "4>0", "1>6", "9<9"]
theorem odds_ok : ∀ y ∈ odds, y.length ≤ 4 := by decide +kernel
abbrev odds2 : List Str := ["", " ", ":", "1 2", "1 2:", "1 2: - ", "1 2: -  -", "0 2:", "7 2: - - - - - - - - - - - - - -", "1 1: -", "01 2: - -", "1 2: - - -"]
theorem odds2_ok : ∀ y ∈ odds2, y.length ≤ 40 := by decide +kernel
theorem txL_ok (rooms s : Nat) (rules : List Rule) : ∀ y ∈ txL rooms s rules, y.length ≤ 4 := fun y hy => by
  unfold txL at hy
  rcases List.mem_cons.mp hy with rfl | hy
  · exact (by decide : 1 ≤ 4)
  rcases List.mem_cons.mp hy with rfl | hy
  · exact (by decide : 2 ≤ 4)
  · obtain ⟨r, _, rfl⟩ := List.mem_map.mp hy
    exact Nat.le_trans (wS_len r) (by decide)
theorem e_worded {rooms s : Nat} {rules : List Rule} {cell other : Int} {q : PyData → Prop} (g : GoodM rooms s rules) (h : ∀ t : Str, t.length ≤ 900 → q (.str t)) : c_l_worded [.str (tx rooms s rules), .int cell, .int other] q := by
  have r1 := g.r1
  have r6 := g.r6
  have s2 := g.s2
  have s4 := g.s4
  have h24 := rules24 g
  have hbig := big
  have hlen := tx_len' rooms s rules
  have hsp := tx_split (rooms := rooms) (s := s) (rules := rules) (by omega) (by omega) fun a d rm hm => (g.ok a d rm hm).2.1
  refine u_l_worded ⟨sp_ne, by omega, ?_⟩
  rw [hsp]
  have hL : (txL rooms s rules).length = rules.length + 2 := by
    unfold txL
    rw [List.length_cons, List.length_cons, List.length_map]
  have hml : ((txL rooms s rules).map PyData.str).length = rules.length + 2 := by rw [List.length_map, hL]
  have hpos : 0 < rules.length := by
    rw [g.len]
    exact Nat.mul_pos r1 (by omega)
  have hq0 : (0 : Int) < ((((txL rooms s rules).map PyData.str).length : Nat) : Int) - 2 := by rw [hml]; omega
  obtain ⟨j, hj, hj2⟩ := mod_nat cell hq0
  refine ⟨hq0, ?_⟩
  rw [hj]
  obtain ⟨p, hp, hp2⟩ := mod_nat other (show (0 : Int) < 16 by decide)
  refine ⟨by decide, ?_⟩
  rw [hp]
  have hp' : p < odds.length := by
    show p < 16
    omega
  refine ixL_nat (ds := odds.map PyData.str) (j := p) (d := .str odds[p]) (by rw [List.getElem?_map, List.getElem?_eq_getElem hp']; rfl) ?_
  have hjl : 2 + j < ((txL rooms s rules).map PyData.str).length := by
    rw [hml] at hj2 ⊢
    omega
  have put : ∀ nx : List PyData → Prop, nx (((txL rooms s rules).map PyData.str).set (2 + j) (.str odds[p])) → fPut ((txL rooms s rules).map PyData.str) (.int (2 + (j : Int))) (.str odds[p]) nx := fun nx hnx => by
    have e : (2 + (j : Int)) = ((2 + j : Nat) : Int) := by omega
    have hix : ixN ((txL rooms s rules).map PyData.str).length ((2 + j : Nat) : Int) = some (2 + j) := by
      unfold ixN
      rw [if_pos (by omega), if_pos (by omega), Int.toNat_natCast]
    unfold fPut
    rw [e]
    simp only [hix]
    exact hnx
  refine put (fun es => (dRet (dJoin (dC (.str " ")) (dVU 3))) { nx := fun _ => False, rt := q } [some (.val (.str (tx rooms s rules))), some (.val (.int cell)), some (.val (.int other)), some (.own es), some (.val (.list (odds.map PyData.str))), some (.val (.int (2 + (j : Int))))]) ?_
  have ok : ∀ y ∈ (txL rooms s rules).set (2 + j) odds[p], y.length ≤ 4 := fun y hy => by
    rcases List.mem_or_eq_of_mem_set hy with hy | rfl
    · exact txL_ok _ _ _ y hy
    · exact odds_ok _ (List.getElem_mem hp')
  have hsl : ((txL rooms s rules).set (2 + j) odds[p]).length ≤ 26 := by rw [List.length_set, hL]; omega
  have hsum := sum_le ok
  have l1 : (" " : Str).length = 1 := by decide +kernel
  refine ⟨(txL rooms s rules).set (2 + j) odds[p], by rw [List.map_set], by rw [l1]; omega, h _ ?_⟩
  rw [join_eq]
  have hj := PySem.StrLaws.join_length_le " " ((txL rooms s rules).set (2 + j) odds[p])
  rw [l1] at hj
  omega
theorem e_odd {cell : Int} {q : PyData → Prop} (h : ∀ t : Str, t.length ≤ 900 → q (.str t)) : c_l_odd [.int cell] q := by
  refine u_l_odd ⟨by decide +kernel, ?_⟩
  obtain ⟨p, hp, hp2⟩ := mod_nat cell (show (0 : Int) < 12 by decide)
  refine ⟨by decide, ?_⟩
  rw [hp]
  have hp' : p < odds2.length := by
    show p < 12
    omega
  refine ixL_nat (ds := odds2.map PyData.str) (j := p) (d := .str odds2[p]) (by rw [List.getElem?_map, List.getElem?_eq_getElem hp']; rfl) (h _ ?_)
  have := odds2_ok _ (List.getElem_mem hp')
  omega
end DL
namespace DL
open PySem PySem.Spec PyProof.Rows L2
open TL
theorem puts_len : (" :<>-01469_+.a" : Str).cps.toList.length = 14 := by decide +kernel
theorem holds_k19 (ns : List Int) (hlen : ns.length ≤ 63) : c_law_k19 [.list (ns.map PyData.int)] (fun d => d = .bool true) := by
  refine u_law_k19 ?_
  refine e_cell_at (ns := ns) (k := 0) rfl ⟨by decide, ?_⟩
  obtain ⟨r, hr, hr2⟩ := mod_nat (cellAt ns 0) (show (0 : Int) < 6 by decide)
  rw [hr]
  refine e_cell_at (ns := ns) (k := 0) rfl ⟨cd (by decide) (by decide), by decide, ?_⟩
  obtain ⟨s, hs, hs2⟩ := mod_nat (cellAt ns 0 / 6) (show (0 : Int) < 3 by decide)
  rw [hs]
  refine e_machine (ns := ns) (start := 4) (rooms := 1 + r) (signs := 2 + s) rfl rfl rfl (by omega) (by omega) (by omega) (by omega) fun rules g => ?_
  have h24 := rules24 g
  refine e_ltext g ?_
  have hT := tx_len' (1 + r) (2 + s) rules
  have hbig := big
  have lz : (tx (1 + r) (2 + s) rules).length ≤ sizeLine := by omega
  have lc : ∀ lo hi, (cutS (tx (1 + r) (2 + s) rules) lo hi).length ≤ 100 := fun lo hi => Nat.le_trans (cutS_length _ lo hi) (by omega)
  refine e_cell_at (ns := ns) (k := 1) rfl ⟨by decide, ?_⟩
  generalize cellAt ns 1 % 40 = way
  refine e_cell_at (ns := ns) (k := 2) rfl ⟨lz, by omega, ?_⟩
  generalize cellAt ns 2 % (((tx (1 + r) (2 + s) rules).length : Int) + 1) = at'
  refine e_cell_at (ns := ns) (k := 3) rfl ⟨by decide, by decide +kernel, ?_⟩
  obtain ⟨p, hp, hp2⟩ := mod_nat (cellAt ns 3) (show (0 : Int) < 14 by decide)
  rw [hp]
  have hp' : p < (" :<>-01469_+.a" : Str).cps.toList.length := by
    rw [puts_len]
    omega
  rw [atI_nat (List.getElem?_eq_getElem hp')]
  generalize (" :<>-01469_+.a" : Str).cps.toList[p] = c
  have l1 : (⟨#[c]⟩ : Str).length = 1 := rfl
  have lput : ∀ lo hi, (cutS (tx (1 + r) (2 + s) rules) lo hi ++ ⟨#[c]⟩).length ≤ 101 := fun lo hi => by
    rw [str_len_app, l1]
    have := lc lo hi
    omega
  refine ⟨fun _ => ?_, fun _ => ⟨fun _ => ?_, fun _ => ⟨fun _ => ?_, fun _ => ⟨fun _ => ?_, fun _ => ⟨fun _ => ?_, fun _ => ?_⟩⟩⟩⟩⟩
  · refine ⟨lz, ?_, lz, ?_, ?_⟩
    · have := lc none (some at'); rw [l1]; omega
    · have := lput none (some at'); have := lc (some at') none; omega
    · refine fin_k19 ?_ _ _ _ _ _ _
      rw [str_len_app]
      have := lput none (some at'); have := lc (some at') none; omega
  · refine ⟨lz, ?_, lz, ?_, ?_⟩
    · have := lc none (some at'); rw [l1]; omega
    · have := lput none (some at'); have := lc (some (at' + 1)) none; omega
    · refine fin_k19 ?_ _ _ _ _ _ _
      rw [str_len_app]
      have := lput none (some at'); have := lc (some (at' + 1)) none; omega
  · refine ⟨lz, lz, ?_, ?_⟩
    · have := lc none (some at'); have := lc (some (at' + 1)) none; omega
    · refine fin_k19 ?_ _ _ _ _ _ _
      rw [str_len_app]
      have := lc none (some at'); have := lc (some (at' + 1)) none; omega
  · refine e_cell_at (ns := ns) (k := 2) rfl ?_
    refine e_cell_at (ns := ns) (k := 3) rfl ?_
    exact e_worded g fun t ht => fin_k19 ht _ _ _ _ _ _
  · refine e_cell_at (ns := ns) (k := 3) rfl ?_
    exact e_odd fun t ht => fin_k19 ht _ _ _ _ _ _
  · exact fin_k19 (by omega) _ _ _ _ _ _
end DL
namespace DL
open PySem PySem.Spec PyProof.Rows L2
def topS (i : Nat) : Stmt := PySem.Challenge.pw_downstair_k19_read.main.body.getD i (.Pass ⟨0, 0, 0, 0⟩)
abbrev s_l_mix : Stmt := topS 16
abbrev s_l_cell_at : Stmt := topS 13
abbrev s_l_pick : Stmt := topS 14
abbrev s_l_machine : Stmt := topS 17
abbrev s_l_text : Stmt := topS 22
abbrev s_l_figure : Stmt := topS 19
abbrev s_l_rule : Stmt := topS 20
abbrev s_l_due : Stmt := topS 21
abbrev s_l_whole : Stmt := topS 15
abbrev s_l_same : Stmt := topS 18
abbrev s_p_figure : Stmt := topS 9
abbrev s_p_ruled : Stmt := topS 5
abbrev s_p_looked : Stmt := topS 6
abbrev s_p_rule_read : Stmt := topS 10
abbrev s_p_read : Stmt := topS 11
abbrev s_l_refused_k19 : Stmt := topS 25
abbrev s_l_worded : Stmt := topS 24
abbrev s_l_odd : Stmt := topS 23
abbrev s_law_k19 : Stmt := topS 26
theorem sc_l_mix : FnScope ["cell", "k"] ["cell", "k"] (defScope s_l_mix) := ⟨rfl, rfl, rfl, by decide +kernel, rfl, by decide +kernel, by decide +kernel⟩
theorem sc_l_cell_at : FnScope ["script", "k"] ["script", "k"] (defScope s_l_cell_at) := ⟨rfl, rfl, rfl, by decide +kernel, rfl, by decide +kernel, by decide +kernel⟩
theorem sc_l_pick : FnScope ["script", "k"] ["script", "k"] (defScope s_l_pick) := ⟨rfl, rfl, rfl, by decide +kernel, rfl, by decide +kernel, by decide +kernel⟩
theorem sc_l_machine : FnScope ["script", "start", "rooms", "signs", "rules", "k", "number"] ["script", "start", "rooms", "signs"] (defScope s_l_machine) := ⟨rfl, rfl, rfl, by decide +kernel, rfl, by decide +kernel, by decide +kernel⟩
theorem sc_l_text : FnScope ["machine", "text", "rule", "word"] ["machine"] (defScope s_l_text) := ⟨rfl, rfl, rfl, by decide +kernel, rfl, by decide +kernel, by decide +kernel⟩
theorem sc_l_figure : FnScope ["word"] ["word"] (defScope s_l_figure) := ⟨rfl, rfl, rfl, by decide +kernel, rfl, by decide +kernel, by decide +kernel⟩
theorem sc_l_rule : FnScope ["word", "rooms", "signs", "rule"] ["word", "rooms", "signs"] (defScope s_l_rule) := ⟨rfl, rfl, rfl, by decide +kernel, rfl, by decide +kernel, by decide +kernel⟩
theorem sc_l_due : FnScope ["text", "words", "rooms", "signs", "rules", "word"] ["text"] (defScope s_l_due) := ⟨rfl, rfl, rfl, by decide +kernel, rfl, by decide +kernel, by decide +kernel⟩
theorem sc_l_whole : FnScope ["x"] ["x"] (defScope s_l_whole) := ⟨rfl, rfl, rfl, by decide +kernel, rfl, by decide +kernel, by decide +kernel⟩
theorem sc_l_same : FnScope ["found", "due", "k"] ["found", "due"] (defScope s_l_same) := ⟨rfl, rfl, rfl, by decide +kernel, rfl, by decide +kernel, by decide +kernel⟩
theorem sc_p_figure : FnScope ["sign"] ["sign"] (defScope s_p_figure) := ⟨rfl, rfl, rfl, by decide +kernel, rfl, by decide +kernel, by decide +kernel⟩
theorem sc_p_ruled : FnScope ["rule", "rooms", "signs"] ["rule", "rooms", "signs"] (defScope s_p_ruled) := ⟨rfl, rfl, rfl, by decide +kernel, rfl, by decide +kernel, by decide +kernel⟩
theorem sc_p_looked : FnScope ["machine", "many", "rule"] ["machine"] (defScope s_p_looked) := ⟨rfl, rfl, rfl, by decide +kernel, rfl, by decide +kernel, by decide +kernel⟩
theorem sc_p_rule_read : FnScope ["word"] ["word"] (defScope s_p_rule_read) := ⟨rfl, rfl, rfl, by decide +kernel, rfl, by decide +kernel, by decide +kernel⟩
theorem sc_p_read : FnScope ["text", "words", "machine", "good", "word"] ["text"] (defScope s_p_read) := ⟨rfl, rfl, rfl, by decide +kernel, rfl, by decide +kernel, by decide +kernel⟩
theorem sc_l_refused_k19 : FnScope ["text", "told", "e"] ["text"] (defScope s_l_refused_k19) := ⟨rfl, rfl, rfl, by decide +kernel, rfl, by decide +kernel, by decide +kernel⟩
theorem sc_l_worded : FnScope ["text", "cell", "other", "words", "odd", "at"] ["text", "cell", "other"] (defScope s_l_worded) := ⟨rfl, rfl, rfl, by decide +kernel, rfl, by decide +kernel, by decide +kernel⟩
theorem sc_l_odd : FnScope ["cell", "some"] ["cell"] (defScope s_l_odd) := ⟨rfl, rfl, rfl, by decide +kernel, rfl, by decide +kernel, by decide +kernel⟩
theorem sc_law_k19 : FnScope ["script", "machine", "text", "way", "at", "put", "due"] ["script"] (defScope s_law_k19) := ⟨rfl, rfl, rfl, by decide +kernel, rfl, by decide +kernel, by decide +kernel⟩
structure Blt (mg : Str → Option Value) : Prop where
  ValueError : mg "ValueError" = none
  all : mg "all" = none
  bool : mg "bool" = none
  int : mg "int" = none
  isinstance : mg "isinstance" = none
  len : mg "len" = none
  range : mg "range" = none
  str : mg "str" = none
  tuple : mg "tuple" = none
  FIGURES : ∃ t, mg "FIGURES" = some (.str "0123456789" t)
section
variable {P : Program} {w : World} {K : PySem.W.Frag} {mg : Str → Option Value} {base : Heap}
theorem cal_l_mix {f : Addr} {fd : FuncData} (F : Fun K "_law_mix" "_law_mix" s_l_mix f fd) (hm : mg "_law_mix" = some (.ref f)) (hb : Binds K fd ["cell", "k"] []) (B : Blt mg) : Cal P w K mg base "_law_mix" RS c_l_mix 2 1 :=
  (⟨⟨f, fd, _, fn_ok F sc_l_mix rfl rfl (fun cdv A outer s H E hr =>
    (pz_one (pz_ret ka_S (px_bin op_mod od_mod (px_SU (px_bin or_add od_add (px_SU (px_bin op_mul od_mul (px_vU (pv 0)) (px_SU px_int))) (px_SU (px_bin op_mul od_mul (px_vU (pv 1)) (px_SU px_int))))) (px_SU px_int))))), hm, F.kp, hb⟩⟩ : Cal P w K mg base "_law_mix" RS _ 2 1).imp fun ds q h => v_l_mix h

theorem cal_l_cell_at {f : Addr} {fd : FuncData} (F : Fun K "_law_cell_at" "_law_cell_at" s_l_cell_at f fd) (hm : mg "_law_cell_at" = some (.ref f)) (hb : Binds K fd ["script", "k"] []) (B : Blt mg) : Cal P w K mg base "_law_cell_at" RS c_l_cell_at 2 1 :=
  (⟨⟨f, fd, _, fn_ok F sc_l_cell_at rfl rfl (fun cdv A outer s H E hr =>
    (pz_cons (pz_if (pxt_cmp op_lt od_lt (px_vU (pv 1)) (px_SU (px_callB call_len oc_len (by rfl) B.len PySem.boot_len (pxb_cons (px_vU (pv 0)) pxb_nil))) (nomark _)) (pz_one (pz_ret ka_S (px_ix (px_v (pv 0)) (px_vU (pv 1))))) pz_nil)
    (pz_one (pz_ret ka_S px_int)))), hm, F.kp, hb⟩⟩ : Cal P w K mg base "_law_cell_at" RS _ 2 1).imp fun ds q h => v_l_cell_at h

theorem cal_l_pick {f : Addr} {fd : FuncData} (F : Fun K "_law_pick" "_law_pick" s_l_pick f fd) (hm : mg "_law_pick" = some (.ref f)) (hb : Binds K fd ["script", "k"] []) (B : Blt mg) (C_l_cell_at : Cal P w K mg base "_law_cell_at" RS c_l_cell_at 2 1) : Cal P w K mg base "_law_pick" RS c_l_pick 2 2 :=
  (⟨⟨f, fd, _, fn_ok F sc_l_pick rfl rfl (fun cdv A outer s H E hr =>
    (pz_cons (pz_if (pxt_cmp op_lt od_lt (px_vU (pv 1)) (px_SU (px_callB call_len oc_len (by rfl) B.len PySem.boot_len (pxb_cons (px_vU (pv 0)) pxb_nil))) (nomark _)) (pz_one (pz_ret ka_S (px_ix (px_v (pv 0)) (px_vU (pv 1))))) pz_nil)
    (pz_one (pz_ret ka_S (px_bin op_fdiv od_div (px_SU (px_bin op_mod od_mod (px_SU (px_bin op_mul od_mul (px_SU (px_bin or_add od_add (px_SU (px_bin or_add od_add (px_SU (px_cal ka_S C_l_cell_at (hr.mono (by decide)) (by rfl) (pxa_cons (px_v (pv 0)) (pxa_cons px_int pxa_nil)))) (px_SU (px_bin op_mul od_mul (px_SU px_int) (px_vU (pv 1)))))) (px_SU px_int))) (px_SU px_int))) (px_SU px_int))) (px_SU px_int)))))), hm, F.kp, hb⟩⟩ : Cal P w K mg base "_law_pick" RS _ 2 2).imp fun ds q h => v_l_pick h

theorem cal_l_machine {f : Addr} {fd : FuncData} (F : Fun K "_law_machine" "_law_machine" s_l_machine f fd) (hm : mg "_law_machine" = some (.ref f)) (hb : Binds K fd ["script", "start", "rooms", "signs"] []) (B : Blt mg) (C_l_mix : Cal P w K mg base "_law_mix" RS c_l_mix 2 1) (C_l_pick : Cal P w K mg base "_law_pick" RS c_l_pick 2 2) : Cal P w K mg base "_law_machine" RS c_l_machine 4 3 :=
  (⟨⟨f, fd, _, fn_ok F sc_l_machine rfl rfl (fun cdv A outer s H E hr =>
    (pz_cons (pz_setO (i := 4) sc_l_machine.nd rfl (Or.inl rfl) (px_lst pxa_nil))
    (pz_cons (pz_for PassesOwn.never rfl (pxi_rng1 (by rfl) B.range (px_SU (px_bin op_mul od_mul (px_vU (pv 2)) (px_vU (pv 3))))) (pg_name (i := 5) sc_l_machine.nd rfl (Or.inl rfl)) (pz_cons (pz_set (i := 6) sc_l_machine.nd rfl (Or.inl rfl) (px_cal ka_S C_l_mix (hr.mono (by decide)) (by rfl) (pxa_cons (px_cal ka_S C_l_pick (hr.mono (by decide)) (by rfl) (pxa_cons (px_v (pv 0)) (pxa_cons (px_bin or_add od_add (px_vU (pv 1)) (px_vU (pv 5))) pxa_nil))) (pxa_cons (px_v (pv 5)) pxa_nil))))
    (pz_one (pz_if (pxt_cmp (or_eq hr.units) od_eq (px_SU (px_bin op_mod od_mod (px_vU (pv 6)) (px_SU px_int))) (px_SU px_int) (nomark _)) (pz_one (pz_app (pv 4) px_non)) (pz_one (pz_app (pv 4) (px_tup (pxa_cons (px_bin op_mod od_mod (px_SU (px_bin op_fdiv od_div (px_vU (pv 6)) (px_SU px_int))) (px_vU (pv 3))) (pxa_cons (px_bin op_mod od_mod (px_SU (px_bin op_fdiv od_div (px_vU (pv 6)) (px_SU px_int))) (px_SU px_int)) (pxa_cons (px_bin op_mod od_mod (px_SU (px_bin op_fdiv od_div (px_vU (pv 6)) (px_SU px_int))) (px_vU (pv 2))) pxa_nil))))))))))
    (pz_one (pz_ret ka_S (px_tup (pxa_cons (px_v (pv 2)) (pxa_cons (px_v (pv 3)) (pxa_cons (px_tupL (by rfl) B.tuple (px_ML (px_vM (pv 4)))) pxa_nil))))))))), hm, F.kp, hb⟩⟩ : Cal P w K mg base "_law_machine" RS _ 4 3).imp fun ds q h => v_l_machine h

theorem cal_l_text {f : Addr} {fd : FuncData} (F : Fun K "_law_text" "_law_text" s_l_text f fd) (hm : mg "_law_text" = some (.ref f)) (hb : Binds K fd ["machine"] []) (B : Blt mg) : Cal P w K mg base "_law_text" RS c_l_text 1 1 :=
  (⟨⟨f, fd, _, fn_ok F sc_l_text rfl rfl (fun cdv A outer s H E hr =>
    (pz_cons (pz_set (i := 1) sc_l_text.nd rfl (Or.inl rfl) (px_bin or_add od_add (px_SU (px_bin or_add od_add (px_SU (px_bin or_add od_add (px_SU (px_callTy call_str_int oc_str1 (by rfl) B.str PyProof.Rows.boot_str (pxb_cons (px_SU (px_ix (px_v (pv 0)) (px_SU px_int))) pxb_nil))) (px_SU px_str))) (px_SU (px_callTy call_str_int oc_str1 (by rfl) B.str PyProof.Rows.boot_str (pxb_cons (px_SU (px_ix (px_v (pv 0)) (px_SU px_int))) pxb_nil))))) (px_SU px_str)))
    (pz_cons (pz_for PassesOwn.never rfl (pxi_tup (px_ix (px_v (pv 0)) (px_SU px_int))) (pg_name (i := 2) sc_l_text.nd rfl (Or.inl rfl)) (pz_one (pz_if (pxt_cmp op_isN od_isN (px_vU (pv 2)) (px_SU px_non) (nomark _)) (pz_one (pz_set (i := 1) sc_l_text.nd rfl (Or.inl rfl) (px_bin or_add od_add (px_vU (pv 1)) (px_SU px_str)))) (pz_cons (pz_set (i := 3) sc_l_text.nd rfl (Or.inl rfl) (px_bin or_add od_add (px_SU (px_bin or_add od_add (px_SU (px_callTy call_str_int oc_str1 (by rfl) B.str PyProof.Rows.boot_str (pxb_cons (px_SU (px_ix (px_v (pv 2)) (px_SU px_int))) pxb_nil))) (px_SU (px_ix px_str (px_SU (px_ix (px_v (pv 2)) (px_SU px_int))))))) (px_SU (px_callTy call_str_int oc_str1 (by rfl) B.str PyProof.Rows.boot_str (pxb_cons (px_SU (px_ix (px_v (pv 2)) (px_SU px_int))) pxb_nil)))))
    (pz_one (pz_set (i := 1) sc_l_text.nd rfl (Or.inl rfl) (px_bin or_add od_add (px_SU (px_bin or_add od_add (px_vU (pv 1)) (px_SU px_str))) (px_vU (pv 3)))))))))
    (pz_one (pz_ret ka_S (px_v (pv 1))))))), hm, F.kp, hb⟩⟩ : Cal P w K mg base "_law_text" RS _ 1 1).imp fun ds q h => v_l_text h

theorem cal_l_figure {f : Addr} {fd : FuncData} (F : Fun K "_law_figure" "_law_figure" s_l_figure f fd) (hm : mg "_law_figure" = some (.ref f)) (hb : Binds K fd ["word"] []) (B : Blt mg) : Cal P w K mg base "_law_figure" RS c_l_figure 1 1 :=
  (⟨⟨f, fd, _, fn_ok F sc_l_figure rfl rfl (fun cdv A outer s H E hr =>
    (pz_cons (pz_if (pxw_t (pxw_and (pxt_cmp (or_eq hr.units) od_eq (px_SU (px_callB call_len oc_len (by rfl) B.len PySem.boot_len (pxb_cons (px_vU (pv 0)) pxb_nil))) (px_SU px_int) (nomark _)) (pxw_and1 (pxt_cmp op_in_str od_inS (px_vU (pv 0)) (px_SU px_str) (by rfl))))) (pz_one (pz_ret ka_S (px_find (px_SU px_str) (px_vU (pv 0))))) pz_nil)
    (pz_one (pz_ret ka_S (px_un un_neg od_neg (px_SU px_int)))))), hm, F.kp, hb⟩⟩ : Cal P w K mg base "_law_figure" RS _ 1 1).imp fun ds q h => v_l_figure h

theorem cal_l_rule {f : Addr} {fd : FuncData} (F : Fun K "_law_rule" "_law_rule" s_l_rule f fd) (hm : mg "_law_rule" = some (.ref f)) (hb : Binds K fd ["word", "rooms", "signs"] []) (B : Blt mg) (C_l_figure : Cal P w K mg base "_law_figure" RS c_l_figure 1 1) : Cal P w K mg base "_law_rule" RS c_l_rule 3 2 :=
  (⟨⟨f, fd, _, fn_ok F sc_l_rule rfl rfl (fun cdv A outer s H E hr =>
    (pz_cons (pz_if (pxt_cmp (or_eq hr.units) od_eq (px_vU (pv 0)) (px_SU px_str) (nomark _)) (pz_one (pz_ret ka_S px_non)) pz_nil)
    (pz_cons (pz_if (pxw_t (pxw_or (pxt_cmp (or_ne hr.units) od_ne (px_SU (px_callB call_len oc_len (by rfl) B.len PySem.boot_len (pxb_cons (px_vU (pv 0)) pxb_nil))) (px_SU px_int) (nomark _)) (pxw_or1 (pxt_cmp op_notin_str od_notinS (px_SU (px_ix (px_v (pv 0)) (px_SU px_int))) (px_SU px_str) (by rfl))))) (pz_one (pz_ret ka_S (px_tup pxa_nil))) pz_nil)
    (pz_cons (pz_set (i := 3) sc_l_rule.nd rfl (Or.inl rfl) (px_tup (pxa_cons (px_cal ka_S C_l_figure (hr.mono (by decide)) (by rfl) (pxa_cons (px_ix (px_v (pv 0)) (px_SU px_int)) pxa_nil)) (pxa_cons (px_find (px_SU px_str) (px_SU (px_ix (px_v (pv 0)) (px_SU px_int)))) (pxa_cons (px_cal ka_S C_l_figure (hr.mono (by decide)) (by rfl) (pxa_cons (px_ix (px_v (pv 0)) (px_SU px_int)) pxa_nil)) pxa_nil)))))
    (pz_cons (pz_if (pxw_t (pxw_or (pxt_not (pxt_chain op_le op_lt od_le od_lt (px_SU px_int) (px_SU (px_ix (px_v (pv 3)) (px_SU px_int))) (px_vU (pv 2)))) (pxw_or1 (pxt_not (pxt_chain op_le op_lt od_le od_lt (px_SU px_int) (px_SU (px_ix (px_v (pv 3)) (px_SU px_int))) (px_vU (pv 1))))))) (pz_one (pz_ret ka_S (px_tup pxa_nil))) pz_nil)
    (pz_one (pz_ret ka_S (px_v (pv 3))))))))), hm, F.kp, hb⟩⟩ : Cal P w K mg base "_law_rule" RS _ 3 2).imp fun ds q h => v_l_rule h

theorem cal_l_due {f : Addr} {fd : FuncData} (F : Fun K "_law_due" "_law_due" s_l_due f fd) (hm : mg "_law_due" = some (.ref f)) (hb : Binds K fd ["text"] []) (B : Blt mg) (C_l_figure : Cal P w K mg base "_law_figure" RS c_l_figure 1 1) (C_l_rule : Cal P w K mg base "_law_rule" RS c_l_rule 3 2) : Cal P w K mg base "_law_due" RS c_l_due 1 3 :=
  (⟨⟨f, fd, _, fn_ok F sc_l_due rfl rfl (fun cdv A outer s H E hr =>
    (pz_cons (pz_set (i := 1) sc_l_due.nd rfl (Or.inl rfl) (px_OS (px_split (px_vU (pv 0)) (px_SU px_str))))
    (pz_cons (pz_if (pxw_t (pxw_or (pxt_cmp op_lt od_lt (px_SU (px_callB call_len oc_len (by rfl) B.len PySem.boot_len (pxb_cons (px_vU (pv 1)) pxb_nil))) (px_SU px_int) (nomark _)) (pxw_or (pxt_cmp (or_ne hr.units) od_ne (px_SU (px_callB call_len oc_len (by rfl) B.len PySem.boot_len (pxb_cons (px_SU (px_ix (px_v (pv 1)) (px_SU px_int))) pxb_nil))) (px_SU px_int) (nomark _)) (pxw_or1 (pxt_cmp (or_ne hr.units) od_ne (px_SU (px_ix (px_ix (px_v (pv 1)) (px_SU px_int)) (px_SU px_int))) (px_SU px_str) (nomark _)))))) (pz_one (pz_ret ka_S px_non)) pz_nil)
    (pz_cons (pz_set (i := 2) sc_l_due.nd rfl (Or.inr rfl) (px_cal ka_S C_l_figure (hr.mono (by decide)) (by rfl) (pxa_cons (px_ix (px_v (pv 1)) (px_SU px_int)) pxa_nil)))
    (pz_cons (pz_set (i := 3) sc_l_due.nd rfl (Or.inr rfl) (px_cal ka_S C_l_figure (hr.mono (by decide)) (by rfl) (pxa_cons (px_ix (px_ix (px_v (pv 1)) (px_SU px_int)) (px_SU px_int)) pxa_nil)))
    (pz_cons (pz_if (pxw_t (pxw_or (pxt_not (pxt_chain op_le op_le od_le od_le (px_SU px_int) (px_vU (pv 2)) (px_SU px_int))) (pxw_or (pxt_not (pxt_chain op_le op_le od_le od_le (px_SU px_int) (px_vU (pv 3)) (px_SU px_int))) (pxw_or1 (pxt_cmp (or_ne hr.units) od_ne (px_SU (px_bin op_sub od_sub (px_SU (px_callB call_len oc_len (by rfl) B.len PySem.boot_len (pxb_cons (px_vU (pv 1)) pxb_nil))) (px_SU px_int))) (px_SU (px_bin op_mul od_mul (px_vU (pv 2)) (px_vU (pv 3)))) (nomark _)))))) (pz_one (pz_ret ka_S px_non)) pz_nil)
    (pz_cons (pz_set (i := 4) sc_l_due.nd rfl (Or.inl rfl) (px_tupL (by rfl) B.tuple (px_ML (px_OM (px_lc rfl sc_l_due.nd (pxi_lst (px_OS (px_slL (px_SL (px_v (pv 1))) (pxo_some (px_SU px_int)) pxo_none))) (blkOk_by (N := ["text", "words", "rooms", "signs", "rules", "word"]) (sc := defScope s_l_due) (own := [("word", 5)]) (by decide +kernel)) (fun _ _ _ _ _ => pg_name (i := 5) sc_l_due.nd rfl (Or.inl rfl)) (fun _ _ _ _ _ => pxts_nil) (fun _ _ _ _ _ => (px_cal ka_S C_l_rule (hr.mono (by decide)) (by rfl) (pxa_cons (px_v (pv 5)) (pxa_cons (px_v (pv 2)) (pxa_cons (px_v (pv 3)) pxa_nil))))))))))
    (pz_cons (pz_if (pxt_cmp (op_inT hr.units65) od_inT (px_SU (px_tup pxa_nil)) (px_vU (pv 4)) (by rfl)) (pz_one (pz_ret ka_S px_non)) pz_nil)
    (pz_one (pz_ret ka_S (px_tup (pxa_cons (px_v (pv 2)) (pxa_cons (px_v (pv 3)) (pxa_cons (px_v (pv 4)) pxa_nil)))))))))))))), hm, F.kp, hb⟩⟩ : Cal P w K mg base "_law_due" RS _ 1 3).imp fun ds q h => v_l_due h

theorem cal_l_whole {f : Addr} {fd : FuncData} (F : Fun K "_law_whole" "_law_whole" s_l_whole f fd) (hm : mg "_law_whole" = some (.ref f)) (hb : Binds K fd ["x"] []) (B : Blt mg) : Cal P w K mg base "_law_whole" RS c_l_whole 1 1 :=
  (⟨⟨f, fd, _, fn_ok F sc_l_whole rfl rfl (fun cdv A outer s H E hr =>
    (pz_one (pz_ret ka_S (px_and (px_SU (px_isi kit_int (by rfl) B.isinstance (px_vU (pv 0)) (pe_bltn (by rfl) B.int PyProof.Rows.boot_int rfl))) (px_one (px_not (px_SU (px_isi kit_bool (by rfl) B.isinstance (px_vU (pv 0)) (pe_bltn (by rfl) B.bool PyProof.Rows.boot_bool rfl))))))))), hm, F.kp, hb⟩⟩ : Cal P w K mg base "_law_whole" RS _ 1 1).imp fun ds q h => v_l_whole h

theorem cal_l_same {c_self : Fn PyData} {lv : Nat} (hl : 1 ≤ lv) {f : Addr} {fd : FuncData} (F : Fun K "_law_same" "_law_same" s_l_same f fd) (hm : mg "_law_same" = some (.ref f)) (hb : Binds K fd ["found", "due"] []) (B : Blt mg) (C_l_whole : Cal P w K mg base "_law_whole" RS c_l_whole 1 1) (C_l_same : Cal P w K mg base "_law_same" RS c_self 2 lv) : Cal P w K mg base "_law_same" RS (c_l_same c_self) 2 (lv + 1) :=
  (⟨⟨f, fd, _, fn_ok F sc_l_same rfl rfl (fun cdv A outer s H E hr =>
    (pz_cons (pz_if (pxt_val (px_SU (px_isi kit_tup (by rfl) B.isinstance (px_vU (pv 1)) (pe_bltn (by rfl) B.tuple PyProof.Rows.boot_tuple rfl)))) (pz_cons (pz_if (pxw_t (pxw_or (pxt_not (pxt_val (px_SU (px_isi kit_tup (by rfl) B.isinstance (px_vU (pv 0)) (pe_bltn (by rfl) B.tuple PyProof.Rows.boot_tuple rfl))))) (pxw_or1 (pxt_cmp (or_ne hr.units) od_ne (px_SU (px_callB call_len oc_len (by rfl) B.len PySem.boot_len (pxb_cons (px_vU (pv 0)) pxb_nil))) (px_SU (px_callB call_len oc_len (by rfl) B.len PySem.boot_len (pxb_cons (px_vU (pv 1)) pxb_nil))) (nomark _))))) (pz_one (pz_ret ka_S px_bl)) pz_nil)
    (pz_one (pz_ret ka_S (px_callB (cr_all rfl) oc_all (by rfl) B.all PyProof.Rows.boot_all (pxb_cons (px_OU (px_lc rfl sc_l_same.nd (pxi_rng1 (by rfl) B.range (px_SU (px_callB call_len oc_len (by rfl) B.len PySem.boot_len (pxb_cons (px_vU (pv 1)) pxb_nil)))) (blkOk_by (N := ["found", "due", "k"]) (sc := defScope s_l_same) (own := [("k", 2)]) (by decide +kernel)) (fun _ _ _ _ _ => pg_name (i := 2) sc_l_same.nd rfl (Or.inl rfl)) (fun _ _ _ _ _ => pxts_nil) (fun _ _ _ _ _ => (px_cal ka_S C_l_same hr (by rfl) (pxa_cons (px_ix (px_v (pv 0)) (px_vU (pv 2))) (pxa_cons (px_ix (px_v (pv 1)) (px_vU (pv 2))) pxa_nil)))))) pxb_nil))))) pz_nil)
    (pz_cons (pz_if (pxw_t (pxw_or (pxt_cmp op_isN od_isN (px_vU (pv 1)) (px_SU px_non) (nomark _)) (pxw_or1 (pxt_val (px_SU (px_isi kit_str (by rfl) B.isinstance (px_vU (pv 1)) (pe_bltn (by rfl) B.str PyProof.Rows.boot_str rfl))))))) (pz_one (pz_ret ka_S (px_cmp (or_eq hr.units) od_eq (px_vU (pv 0)) (px_vU (pv 1)) (nomark _)))) pz_nil)
    (pz_one (pz_ret ka_S (px_and (px_SU (px_cal ka_S C_l_whole (hr.mono hl) (by rfl) (pxa_cons (px_v (pv 0)) pxa_nil))) (px_one (px_cmp (or_eq hr.units) od_eq (px_vU (pv 0)) (px_vU (pv 1)) (nomark _))))))))), hm, F.kp, hb⟩⟩ : Cal P w K mg base "_law_same" RS _ 2 (lv + 1)).imp fun ds q h => v_l_same h

theorem cal_p_figure {f : Addr} {fd : FuncData} (F : Fun K "figure" "figure" s_p_figure f fd) (hm : mg "figure" = some (.ref f)) (hb : Binds K fd ["sign"] []) (B : Blt mg) {C_NoNote : Addr} (T_NoNote : XCls K mg "NoNote" C_NoNote) : CalX P w K mg base "figure" RS cx_p_figure 1 1 :=
  ⟨⟨f, fd, _, (fn_okX F sc_p_figure rfl rfl (fun cdv A outer s H E hr =>
    (pz_cons (pz_if (pxw_t (pxw_or (pxt_cmp (or_ne hr.units) od_ne (px_SU (px_callB call_len oc_len (by rfl) B.len PySem.boot_len (pxb_cons (px_vU (pv 0)) pxb_nil))) (px_SU px_int) (nomark _)) (pxw_or1 (pxt_cmp op_notin_str od_notinS (px_vU (pv 0)) (px_SU (px_globS (by rfl) B.FIGURES)) (by rfl))))) (pz_one (pz_raise rfl (takes_of rfl rfl rfl rfl) T_NoNote (by rfl) (fun σ H h => h _ T_NoNote.g))) pz_nil)
    (pz_one (pz_ret ka_S (px_find (px_SU (px_globS (by rfl) B.FIGURES)) (px_vU (pv 0)))))))).imp fun vs H Q E ⟨H0, ds, q, x, h1, h2, h3, h4, h5, h6⟩ => ⟨H0, ds, q, x, h1, h2, h3, vx_p_figure h4, h5, h6⟩, hm, F.kp, hb⟩⟩

theorem cal_p_ruled {f : Addr} {fd : FuncData} (F : Fun K "ruled" "ruled" s_p_ruled f fd) (hm : mg "ruled" = some (.ref f)) (hb : Binds K fd ["rule", "rooms", "signs"] []) (B : Blt mg) : Cal P w K mg base "ruled" RS c_p_ruled 3 1 :=
  (⟨⟨f, fd, _, fn_ok F sc_p_ruled rfl rfl (fun cdv A outer s H E hr =>
    (pz_cons (pz_if (pxt_cmp op_isN od_isN (px_vU (pv 0)) (px_SU px_non) (nomark _)) (pz_one (pz_ret ka_S px_bl)) pz_nil)
    (pz_one (pz_ret ka_S (px_and (px_SU (px_chain op_le op_lt od_le od_lt (px_SU px_int) (px_SU (px_ix (px_v (pv 0)) (px_SU px_int))) (px_vU (pv 2)))) (px_and (px_SU (px_chain op_le op_lt od_le od_lt (px_SU px_int) (px_SU (px_ix (px_v (pv 0)) (px_SU px_int))) (px_SU px_int))) (px_one (px_chain op_le op_lt od_le od_lt (px_SU px_int) (px_SU (px_ix (px_v (pv 0)) (px_SU px_int))) (px_vU (pv 1)))))))))), hm, F.kp, hb⟩⟩ : Cal P w K mg base "ruled" RS _ 3 1).imp fun ds q h => v_p_ruled h

theorem cal_p_looked {f : Addr} {fd : FuncData} (F : Fun K "looked" "looked" s_p_looked f fd) (hm : mg "looked" = some (.ref f)) (hb : Binds K fd ["machine"] []) (B : Blt mg) {C_NoMachine : Addr} (T_NoMachine : XCls K mg "NoMachine" C_NoMachine) (C_p_ruled : Cal P w K mg base "ruled" RS c_p_ruled 3 1) : CalX P w K mg base "looked" RS cx_p_looked 1 2 :=
  ⟨⟨f, fd, _, (fn_okX F sc_p_looked rfl rfl (fun cdv A outer s H E hr =>
    (pz_cons (pz_if (pxw_t (pxw_or (pxt_not (pxt_chain op_le op_le od_le od_le (px_SU px_int) (px_SU (px_ix (px_v (pv 0)) (px_SU px_int))) (px_SU px_int))) (pxw_or1 (pxt_not (pxt_chain op_le op_le od_le od_le (px_SU px_int) (px_SU (px_ix (px_v (pv 0)) (px_SU px_int))) (px_SU px_int)))))) (pz_one (pz_raise rfl (takes_of rfl rfl rfl rfl) T_NoMachine (by rfl) (fun σ H h => h _ T_NoMachine.g))) pz_nil)
    (pz_cons (pz_if (pxt_cmp (or_ne hr.units) od_ne (px_SU (px_callB call_len oc_len (by rfl) B.len PySem.boot_len (pxb_cons (px_SU (px_ix (px_v (pv 0)) (px_SU px_int))) pxb_nil))) (px_SU (px_bin op_mul od_mul (px_SU (px_ix (px_v (pv 0)) (px_SU px_int))) (px_SU (px_ix (px_v (pv 0)) (px_SU px_int))))) (nomark _)) (pz_one (pz_raise rfl (takes_of rfl rfl rfl rfl) T_NoMachine (by rfl) (fun σ H h => h _ T_NoMachine.g))) pz_nil)
    (pz_cons (pz_set (i := 1) sc_p_looked.nd rfl (Or.inl rfl) px_int)
    (pz_cons (pz_for (passes_of rfl) rfl (pxi_tup (px_ix (px_v (pv 0)) (px_SU px_int))) (pg_name (i := 2) sc_p_looked.nd rfl (Or.inl rfl)) (pz_cons (pz_if (pxt_not (pxt_val (px_SU (px_cal ka_S C_p_ruled (hr.mono (by decide)) (by rfl) (pxa_cons (px_v (pv 2)) (pxa_cons (px_ix (px_v (pv 0)) (px_SU px_int)) (pxa_cons (px_ix (px_v (pv 0)) (px_SU px_int)) pxa_nil))))))) (pz_one (pz_raise rfl (takes_of rfl rfl rfl rfl) T_NoMachine (by rfl) (fun σ H h => h _ T_NoMachine.g))) pz_nil)
    (pz_one (pz_if (pxt_cmp op_notN od_notN (px_vU (pv 2)) (px_SU px_non) (nomark _)) (pz_one (pz_set (i := 1) sc_p_looked.nd rfl (Or.inl rfl) (px_bin or_add od_add (px_vU (pv 1)) (px_SU px_int)))) pz_nil))))
    (pz_one (pz_ret ka_S (px_v (pv 1)))))))))).imp fun vs H Q E ⟨H0, ds, q, x, h1, h2, h3, h4, h5, h6⟩ => ⟨H0, ds, q, x, h1, h2, h3, vx_p_looked h4, h5, h6⟩, hm, F.kp, hb⟩⟩

theorem cal_p_rule_read {f : Addr} {fd : FuncData} (F : Fun K "rule_read" "rule_read" s_p_rule_read f fd) (hm : mg "rule_read" = some (.ref f)) (hb : Binds K fd ["word"] []) (B : Blt mg) {C_NoNote : Addr} (T_NoNote : XCls K mg "NoNote" C_NoNote) (C_p_figure : CalX P w K mg base "figure" RS cx_p_figure 1 1) : CalX P w K mg base "rule_read" RS cx_p_rule_read 1 2 :=
  ⟨⟨f, fd, _, (fn_okX F sc_p_rule_read rfl rfl (fun cdv A outer s H E hr =>
    (pz_cons (pz_if (pxt_cmp (or_eq hr.units) od_eq (px_vU (pv 0)) (px_SU px_str) (nomark _)) (pz_one (pz_ret ka_S px_non)) pz_nil)
    (pz_cons (pz_if (pxw_t (pxw_or (pxt_cmp (or_ne hr.units) od_ne (px_SU (px_callB call_len oc_len (by rfl) B.len PySem.boot_len (pxb_cons (px_vU (pv 0)) pxb_nil))) (px_SU px_int) (nomark _)) (pxw_or1 (pxt_cmp op_notin_str od_notinS (px_SU (px_ix (px_v (pv 0)) (px_SU px_int))) (px_SU px_str) (by rfl))))) (pz_one (pz_raise rfl (takes_of rfl rfl rfl rfl) T_NoNote (by rfl) (fun σ H h => h _ T_NoNote.g))) pz_nil)
    (pz_one (pz_retX (fun y C σ H hm h => h C hm) ka_S (pxx_tup (pxxa_cons (pxx_call (takes_of rfl rfl rfl rfl) ka_S C_p_figure (hr.mono (by decide)) (by rfl) (pxa_cons (px_ix (px_v (pv 0)) (px_SU px_int)) pxa_nil)) (pxxa_cons (pxx_of (px_find (px_SU px_str) (px_SU (px_ix (px_v (pv 0)) (px_SU px_int))))) (pxxa_cons (pxx_call (takes_of rfl rfl rfl rfl) ka_S C_p_figure (hr.mono (by decide)) (by rfl) (pxa_cons (px_ix (px_v (pv 0)) (px_SU px_int)) pxa_nil)) pxxa_nil)))))))))).imp fun vs H Q E ⟨H0, ds, q, x, h1, h2, h3, h4, h5, h6⟩ => ⟨H0, ds, q, x, h1, h2, h3, vx_p_rule_read h4, h5, h6⟩, hm, F.kp, hb⟩⟩

theorem cal_p_read {f : Addr} {fd : FuncData} (F : Fun K "read" "read" s_p_read f fd) (hm : mg "read" = some (.ref f)) (hb : Binds K fd ["text"] []) (B : Blt mg) {C_NoNote : Addr} (T_NoNote : XCls K mg "NoNote" C_NoNote) {C_NoMachine : Addr} (T_NoMachine : XCls K mg "NoMachine" C_NoMachine) (hx_NoMachine : PySem.W.exmOne K (.ref C_NoMachine) (.ref C_NoMachine) = some true) (C_p_figure : CalX P w K mg base "figure" RS cx_p_figure 1 1) (C_p_looked : CalX P w K mg base "looked" RS cx_p_looked 1 2) (C_p_rule_read : CalX P w K mg base "rule_read" RS cx_p_rule_read 1 2) : CalX P w K mg base "read" RS cx_p_read 1 3 :=
  ⟨⟨f, fd, _, (fn_okX F sc_p_read rfl rfl (fun cdv A outer s H E hr =>
    (pz_cons (pz_set (i := 1) sc_p_read.nd rfl (Or.inl rfl) (px_OS (px_split (px_vU (pv 0)) (px_SU px_str))))
    (pz_cons (pz_if (pxw_t (pxw_or (pxt_cmp op_lt od_lt (px_SU (px_callB call_len oc_len (by rfl) B.len PySem.boot_len (pxb_cons (px_vU (pv 1)) pxb_nil))) (px_SU px_int) (nomark _)) (pxw_or (pxt_cmp (or_ne hr.units) od_ne (px_SU (px_callB call_len oc_len (by rfl) B.len PySem.boot_len (pxb_cons (px_SU (px_ix (px_v (pv 1)) (px_SU px_int))) pxb_nil))) (px_SU px_int) (nomark _)) (pxw_or1 (pxt_cmp (or_ne hr.units) od_ne (px_SU (px_ix (px_ix (px_v (pv 1)) (px_SU px_int)) (px_SU px_int))) (px_SU px_str) (nomark _)))))) (pz_one (pz_raise rfl (takes_of rfl rfl rfl rfl) T_NoNote (by rfl) (fun σ H h => h _ T_NoNote.g))) pz_nil)
    (pz_cons (pz_setX (i := 2) (fun y C σ H hm h => h C hm) sc_p_read.nd rfl (Or.inl rfl) (pxx_tup (pxxa_cons (pxx_call (takes_of rfl rfl rfl rfl) ka_S C_p_figure (hr.mono (by decide)) (by rfl) (pxa_cons (px_ix (px_v (pv 1)) (px_SU px_int)) pxa_nil)) (pxxa_cons (pxx_call (takes_of rfl rfl rfl rfl) ka_S C_p_figure (hr.mono (by decide)) (by rfl) (pxa_cons (px_ix (px_ix (px_v (pv 1)) (px_SU px_int)) (px_SU px_int)) pxa_nil)) (pxxa_cons (pxx_tupO (by rfl) B.tuple (pxx_lc (takes_of rfl rfl rfl rfl) rfl rfl rfl sc_p_read.nd (pxi_lst (px_OS (px_slL (px_SL (px_v (pv 1))) (pxo_some (px_SU px_int)) pxo_none))) (blkOk_by (N := ["text", "words", "machine", "good", "word"]) (sc := defScope s_p_read) (own := [("word", 4)]) (by decide +kernel)) (fun _ _ _ _ _ => pg_name (i := 4) sc_p_read.nd rfl (Or.inl rfl)) C_p_rule_read (hr.mono (by decide)) (fun _ _ _ _ _ => by rfl) (fun _ _ _ _ _ => pa_cons (pv 4) pa_nil) sa_var)) pxxa_nil)))))
    (pz_cons (pz_set (i := 3) sc_p_read.nd rfl (Or.inl rfl) px_bl)
    (pz_cons (pz_tryX (takes_of rfl rfl rfl rfl) rfl rfl ⟨rfl, by decide, Or.inl T_NoMachine.g⟩ T_NoMachine.g hx_NoMachine C_p_looked (hr.mono (by decide)) (by rfl) (fun _ _ => pv 2) (fun _ _ => pss_one (ps_set (i := 3) sc_p_read.nd rfl (Or.inl rfl) pe_bl)) (sz_set se_bl))
    (pz_cons (pz_if (pxt_not (pxt_val (px_vU (pv 3)))) (pz_one (pz_raise rfl (takes_of rfl rfl rfl rfl) T_NoNote (by rfl) (fun σ H h => h _ T_NoNote.g))) pz_nil)
    (pz_one (pz_ret ka_S (px_v (pv 2)))))))))))).imp fun vs H Q E ⟨H0, ds, q, x, h1, h2, h3, h4, h5, h6⟩ => ⟨H0, ds, q, x, h1, h2, h3, vx_p_read h4, h5, h6⟩, hm, F.kp, hb⟩⟩

theorem cal_l_refused_k19 {f : Addr} {fd : FuncData} (F : Fun K "_law_refused" "_law_refused" s_l_refused_k19 f fd) (hm : mg "_law_refused" = some (.ref f)) (hb : Binds K fd ["text"] []) {CS D B0 fL : Addr} {fdL : FuncData} (T : RefT K mg "NoNote" "NoMachine" CS D B0) {psL : List Str} (FL : FnOk P w K mg base (L2.CX P w) 3 fL fdL psL (spX K mg RS cx_p_read 1)) (gL : mg "read" = some (.ref fL)) (kL : PySem.W.keepIn K (.ref fL) = true) (bL : Binds K fdL psL []) : Cal P w K mg base "_law_refused" RS c_l_refused_k19 1 4 :=
  (⟨⟨f, fd, _, F.ok (sp := spD K RS (refused0 cx_p_read "NoNote") 1) sc_l_refused_k19 (fun vs H Q E ⟨_, _, _, h, _⟩ => h) (fun cdv A outer s H vs Q E hr h => ⟨t_ref K mg cx_p_read CS D B0,
    pss_cons (ps_set (i := 1) sc_l_refused_k19.nd rfl (Or.inl rfl) pe_bl) (pss_cons (ps_try_as (i := 2) (tb := tb_ref K mg cx_p_read) (ts := ts_ref K D B0) (Wout := fun _ _ _ _ => False) rfl rfl sc_l_refused_k19.nd rfl rfl ⟨rfl, by decide, Or.inl T.gS⟩ L2.takes0
      (fun W pn xe tk _ => pss_one (ps_expr (by exact (pe_callS FL (hr.mono (by decide)) (by rfl) gL kL bL (fun σ => passAt tk σ) (by exact (pa_cons (pv 0) pa_nil))))))
      (fun a oe cls d pn hz hf => pss_when fun ec ed => by
        subst ec ed
        exact pss_one (ps_set (i := 1) sc_l_refused_k19.nd rfl (Or.inl rfl) (by exact (pe_and (pe_callB (call_isE T.C hz hf) (by rfl) T.vI PyProof.Rows.boot_isinstance (pa_cons (pv 2) (pa_cons (pe_glob (by rfl) T.gG rfl) pa_nil))) (pe_and (pe_callB (call_isE T.C hz hf) (by rfl) T.vI PyProof.Rows.boot_isinstance (pa_cons (pv 2) (pa_cons (pe_bltn (by rfl) T.vE bootVE rfl) pa_nil))) (pe_one (pe_not (pe_callB (call_isE T.C hz hf) (by rfl) T.vI PyProof.Rows.boot_isinstance (pa_cons (pv 2) (pa_cons (pe_glob (by rfl) T.gB rfl) pa_nil)))))))))))
      (pss_one (ps_ret (pv 1)))), pure_ref rfl T h⟩), hm, F.kp, hb⟩⟩ : Cal P w K mg base "_law_refused" RS _ 1 4).imp fun ds q h => v_l_refused_k19 h

theorem cal_l_worded {f : Addr} {fd : FuncData} (F : Fun K "_law_worded" "_law_worded" s_l_worded f fd) (hm : mg "_law_worded" = some (.ref f)) (hb : Binds K fd ["text", "cell", "other"] []) (B : Blt mg) : Cal P w K mg base "_law_worded" RS c_l_worded 3 1 :=
  (⟨⟨f, fd, _, fn_ok F sc_l_worded rfl rfl (fun cdv A outer s H E hr =>
    (pz_cons (pz_setO (i := 3) sc_l_worded.nd rfl (Or.inl rfl) (px_split (px_vU (pv 0)) (px_SU px_str)))
    (pz_cons (pz_set (i := 4) sc_l_worded.nd rfl (Or.inl rfl) (px_OS (px_lst (pxa_cons px_str (pxa_cons px_str (pxa_cons px_str (pxa_cons px_str (pxa_cons px_str (pxa_cons px_str (pxa_cons px_str (pxa_cons px_str (pxa_cons px_str (pxa_cons px_str (pxa_cons px_str (pxa_cons px_str (pxa_cons px_str (pxa_cons px_str (pxa_cons px_str (pxa_cons px_str pxa_nil)))))))))))))))))))
    (pz_cons (pz_set (i := 5) sc_l_worded.nd rfl (Or.inl rfl) (px_bin or_add od_add (px_SU px_int) (px_SU (px_bin op_mod od_mod (px_vU (pv 1)) (px_SU (px_bin op_sub od_sub (px_SU (px_callB call_len oc_len (by rfl) B.len PySem.boot_len (pxb_cons (px_vU (pv 3)) pxb_nil))) (px_SU px_int)))))))
    (pz_cons (pz_put (pv 3) (px_vU (pv 5)) (px_ix (px_v (pv 4)) (px_SU (px_bin op_mod od_mod (px_vU (pv 2)) (px_SU px_int)))))
    (pz_one (pz_ret ka_S (px_join (px_SU px_str) (px_vU (pv 3)))))))))), hm, F.kp, hb⟩⟩ : Cal P w K mg base "_law_worded" RS _ 3 1).imp fun ds q h => v_l_worded h

theorem cal_l_odd {f : Addr} {fd : FuncData} (F : Fun K "_law_odd" "_law_odd" s_l_odd f fd) (hm : mg "_law_odd" = some (.ref f)) (hb : Binds K fd ["cell"] []) (B : Blt mg) : Cal P w K mg base "_law_odd" RS c_l_odd 1 1 :=
  (⟨⟨f, fd, _, fn_ok F sc_l_odd rfl rfl (fun cdv A outer s H E hr =>
    (pz_cons (pz_setO (i := 1) sc_l_odd.nd rfl (Or.inl rfl) (px_lst (pxa_cons px_str (pxa_cons px_str (pxa_cons px_str (pxa_cons px_str (pxa_cons px_str (pxa_cons px_str (pxa_cons px_str (pxa_cons px_str (pxa_cons px_str (pxa_cons px_str pxa_nil))))))))))))
    (pz_cons (pz_setO (i := 1) sc_l_odd.nd rfl (Or.inl rfl) (px_cat (px_vM (pv 1)) (px_OM (px_lst (pxa_cons px_str (pxa_cons px_str pxa_nil))))))
    (pz_one (pz_ret ka_S (px_ixL (px_ML (px_vM (pv 1))) (px_SU (px_bin op_mod od_mod (px_vU (pv 0)) (px_SU px_int))))))))), hm, F.kp, hb⟩⟩ : Cal P w K mg base "_law_odd" RS _ 1 1).imp fun ds q h => v_l_odd h

theorem fn_law_k19 {f : Addr} {fd : FuncData} (F : Fun K "law" "law" s_law_k19 f fd) (B : Blt mg) (C_l_machine : Cal P w K mg base "_law_machine" RS c_l_machine 4 3) (C_l_text : Cal P w K mg base "_law_text" RS c_l_text 1 1) (C_l_due : Cal P w K mg base "_law_due" RS c_l_due 1 3) (C_l_same : Cal P w K mg base "_law_same" RS (c_same 4) 2 6) (C_l_cell_at : Cal P w K mg base "_law_cell_at" RS c_l_cell_at 2 1) (C_p_read : CalX P w K mg base "read" RS cx_p_read 1 3) (C_l_refused_k19 : Cal P w K mg base "_law_refused" RS c_l_refused_k19 1 4) (C_l_worded : Cal P w K mg base "_law_worded" RS c_l_worded 3 1) (C_l_odd : Cal P w K mg base "_law_odd" RS c_l_odd 1 1) : FnOk P w K mg base CX0 7 f fd ["script"] (spD K RS c_law_k19 1) :=
  fnok_imp (fn_ok F sc_law_k19 rfl rfl (fun cdv A outer s H E hr =>
    (pz_cons (pz_set (i := 1) sc_law_k19.nd rfl (Or.inl rfl) (px_cal ka_S C_l_machine (hr.mono (by decide)) (by rfl) (pxa_cons (px_v (pv 0)) (pxa_cons px_int (pxa_cons (px_bin or_add od_add (px_SU px_int) (px_SU (px_bin op_mod od_mod (px_SU (px_cal ka_S C_l_cell_at (hr.mono (by decide)) (by rfl) (pxa_cons (px_v (pv 0)) (pxa_cons px_int pxa_nil)))) (px_SU px_int)))) (pxa_cons (px_bin or_add od_add (px_SU px_int) (px_SU (px_bin op_mod od_mod (px_SU (px_bin op_fdiv od_div (px_SU (px_cal ka_S C_l_cell_at (hr.mono (by decide)) (by rfl) (pxa_cons (px_v (pv 0)) (pxa_cons px_int pxa_nil)))) (px_SU px_int))) (px_SU px_int)))) pxa_nil))))))
    (pz_cons (pz_set (i := 2) sc_law_k19.nd rfl (Or.inl rfl) (px_cal ka_S C_l_text (hr.mono (by decide)) (by rfl) (pxa_cons (px_v (pv 1)) pxa_nil)))
    (pz_cons (pz_set (i := 3) sc_law_k19.nd rfl (Or.inl rfl) (px_bin op_mod od_mod (px_SU (px_cal ka_S C_l_cell_at (hr.mono (by decide)) (by rfl) (pxa_cons (px_v (pv 0)) (pxa_cons px_int pxa_nil)))) (px_SU px_int)))
    (pz_cons (pz_set (i := 4) sc_law_k19.nd rfl (Or.inl rfl) (px_bin op_mod od_mod (px_SU (px_cal ka_S C_l_cell_at (hr.mono (by decide)) (by rfl) (pxa_cons (px_v (pv 0)) (pxa_cons px_int pxa_nil)))) (px_SU (px_bin or_add od_add (px_SU (px_callB call_len oc_len (by rfl) B.len PySem.boot_len (pxb_cons (px_vU (pv 2)) pxb_nil))) (px_SU px_int)))))
    (pz_cons (pz_set (i := 5) sc_law_k19.nd rfl (Or.inl rfl) (px_ix px_str (px_SU (px_bin op_mod od_mod (px_SU (px_cal ka_S C_l_cell_at (hr.mono (by decide)) (by rfl) (pxa_cons (px_v (pv 0)) (pxa_cons px_int pxa_nil)))) (px_SU px_int)))))
    (pz_cons (pz_if (pxt_cmp op_lt od_lt (px_vU (pv 3)) (px_SU px_int) (nomark _)) (pz_one (pz_set (i := 2) sc_law_k19.nd rfl (Or.inl rfl) (px_bin or_add od_add (px_SU (px_bin or_add od_add (px_SU (px_slT (px_v (pv 2)) pxo_none (pxo_some (px_vU (pv 4))))) (px_vU (pv 5)))) (px_SU (px_slT (px_v (pv 2)) (pxo_some (px_vU (pv 4))) pxo_none))))) (pz_one (pz_if (pxt_cmp op_lt od_lt (px_vU (pv 3)) (px_SU px_int) (nomark _)) (pz_one (pz_set (i := 2) sc_law_k19.nd rfl (Or.inl rfl) (px_bin or_add od_add (px_SU (px_bin or_add od_add (px_SU (px_slT (px_v (pv 2)) pxo_none (pxo_some (px_vU (pv 4))))) (px_vU (pv 5)))) (px_SU (px_slT (px_v (pv 2)) (pxo_some (px_SU (px_bin or_add od_add (px_vU (pv 4)) (px_SU px_int)))) pxo_none))))) (pz_one (pz_if (pxt_cmp op_lt od_lt (px_vU (pv 3)) (px_SU px_int) (nomark _)) (pz_one (pz_set (i := 2) sc_law_k19.nd rfl (Or.inl rfl) (px_bin or_add od_add (px_SU (px_slT (px_v (pv 2)) pxo_none (pxo_some (px_vU (pv 4))))) (px_SU (px_slT (px_v (pv 2)) (pxo_some (px_SU (px_bin or_add od_add (px_vU (pv 4)) (px_SU px_int)))) pxo_none))))) (pz_one (pz_if (pxt_cmp op_lt od_lt (px_vU (pv 3)) (px_SU px_int) (nomark _)) (pz_one (pz_set (i := 2) sc_law_k19.nd rfl (Or.inl rfl) (px_cal ka_S C_l_worded (hr.mono (by decide)) (by rfl) (pxa_cons (px_v (pv 2)) (pxa_cons (px_cal ka_S C_l_cell_at (hr.mono (by decide)) (by rfl) (pxa_cons (px_v (pv 0)) (pxa_cons px_int pxa_nil))) (pxa_cons (px_cal ka_S C_l_cell_at (hr.mono (by decide)) (by rfl) (pxa_cons (px_v (pv 0)) (pxa_cons px_int pxa_nil))) pxa_nil)))))) (pz_one (pz_if (pxt_cmp op_lt od_lt (px_vU (pv 3)) (px_SU px_int) (nomark _)) (pz_one (pz_set (i := 2) sc_law_k19.nd rfl (Or.inl rfl) (px_cal ka_S C_l_odd (hr.mono (by decide)) (by rfl) (pxa_cons (px_cal ka_S C_l_cell_at (hr.mono (by decide)) (by rfl) (pxa_cons (px_v (pv 0)) (pxa_cons px_int pxa_nil))) pxa_nil)))) pz_nil)))))))))
    (pz_cons (pz_set (i := 6) sc_law_k19.nd rfl (Or.inl rfl) (px_cal ka_S C_l_due (hr.mono (by decide)) (by rfl) (pxa_cons (px_v (pv 2)) pxa_nil)))
    (pz_cons (pz_if (pxt_cmp op_isN od_isN (px_vU (pv 6)) (px_SU px_non) (nomark _)) (pz_one (pz_ret ka_S (px_and (px_SU (px_cal ka_S C_l_refused_k19 (hr.mono (by decide)) (by rfl) (pxa_cons (px_v (pv 2)) pxa_nil))) (px_one (px_cal ka_S C_l_refused_k19 (hr.mono (by decide)) (by rfl) (pxa_cons (px_v (pv 2)) pxa_nil)))))) pz_nil)
    (pz_one (pz_ret ka_S (px_cal ka_S C_l_same (hr.mono (by decide)) (by rfl) (pxa_cons (px_cal ka_S C_p_read.calm (hr.mono (by decide)) (by rfl) (pxa_cons (px_v (pv 2)) pxa_nil)) (pxa_cons (px_v (pv 6)) pxa_nil))))))))))))))) fun ds q h => v_law_k19 h
end
theorem all_mk {P : Program} {w : World} {K : PySem.W.Frag} {h : Heap} {mg : Str → Option Value} {fa : Addr} (X : K.In h) (G : h.Ns mainGlobals mg) (hfa : mg "law" = some (.ref fa))
    {od0 an0 : Option Addr} {sl0 : Array (Option Value)} {oc0 kV0 dc0 pm0 cd0 ct0 : Value} {f0 : Addr} (a0 : PySem.W.nsIn K mainGlobals "_law_mix" = some (some (.ref f0))) (l0 : K.lookup f0 = some ⟨oc0, od0, .func (PySem.W.fnOf "_law_mix" "_law_mix" (defArgs s_l_mix) (defBody s_l_mix) (defScope s_l_mix) .none kV0 dc0 pm0 an0 cd0 ct0), sl0⟩) (c0 : PySem.W.codeIn K cd0 "_law_mix" = true) (k0 : PySem.W.keepIn K (.ref f0) = true)
    {od1 an1 : Option Addr} {sl1 : Array (Option Value)} {oc1 kV1 dc1 pm1 cd1 ct1 : Value} {f1 : Addr} (a1 : PySem.W.nsIn K mainGlobals "_law_cell_at" = some (some (.ref f1))) (l1 : K.lookup f1 = some ⟨oc1, od1, .func (PySem.W.fnOf "_law_cell_at" "_law_cell_at" (defArgs s_l_cell_at) (defBody s_l_cell_at) (defScope s_l_cell_at) .none kV1 dc1 pm1 an1 cd1 ct1), sl1⟩) (c1 : PySem.W.codeIn K cd1 "_law_cell_at" = true) (k1 : PySem.W.keepIn K (.ref f1) = true)
    {od2 an2 : Option Addr} {sl2 : Array (Option Value)} {oc2 kV2 dc2 pm2 cd2 ct2 : Value} {f2 : Addr} (a2 : PySem.W.nsIn K mainGlobals "_law_pick" = some (some (.ref f2))) (l2 : K.lookup f2 = some ⟨oc2, od2, .func (PySem.W.fnOf "_law_pick" "_law_pick" (defArgs s_l_pick) (defBody s_l_pick) (defScope s_l_pick) .none kV2 dc2 pm2 an2 cd2 ct2), sl2⟩) (c2 : PySem.W.codeIn K cd2 "_law_pick" = true) (k2 : PySem.W.keepIn K (.ref f2) = true)
    {od3 an3 : Option Addr} {sl3 : Array (Option Value)} {oc3 kV3 dc3 pm3 cd3 ct3 : Value} {f3 : Addr} (a3 : PySem.W.nsIn K mainGlobals "_law_machine" = some (some (.ref f3))) (l3 : K.lookup f3 = some ⟨oc3, od3, .func (PySem.W.fnOf "_law_machine" "_law_machine" (defArgs s_l_machine) (defBody s_l_machine) (defScope s_l_machine) .none kV3 dc3 pm3 an3 cd3 ct3), sl3⟩) (c3 : PySem.W.codeIn K cd3 "_law_machine" = true) (k3 : PySem.W.keepIn K (.ref f3) = true)
    {od4 an4 : Option Addr} {sl4 : Array (Option Value)} {oc4 kV4 dc4 pm4 cd4 ct4 : Value} {f4 : Addr} (a4 : PySem.W.nsIn K mainGlobals "_law_text" = some (some (.ref f4))) (l4 : K.lookup f4 = some ⟨oc4, od4, .func (PySem.W.fnOf "_law_text" "_law_text" (defArgs s_l_text) (defBody s_l_text) (defScope s_l_text) .none kV4 dc4 pm4 an4 cd4 ct4), sl4⟩) (c4 : PySem.W.codeIn K cd4 "_law_text" = true) (k4 : PySem.W.keepIn K (.ref f4) = true)
    {od5 an5 : Option Addr} {sl5 : Array (Option Value)} {oc5 kV5 dc5 pm5 cd5 ct5 : Value} {f5 : Addr} (a5 : PySem.W.nsIn K mainGlobals "_law_figure" = some (some (.ref f5))) (l5 : K.lookup f5 = some ⟨oc5, od5, .func (PySem.W.fnOf "_law_figure" "_law_figure" (defArgs s_l_figure) (defBody s_l_figure) (defScope s_l_figure) .none kV5 dc5 pm5 an5 cd5 ct5), sl5⟩) (c5 : PySem.W.codeIn K cd5 "_law_figure" = true) (k5 : PySem.W.keepIn K (.ref f5) = true)
    {od6 an6 : Option Addr} {sl6 : Array (Option Value)} {oc6 kV6 dc6 pm6 cd6 ct6 : Value} {f6 : Addr} (a6 : PySem.W.nsIn K mainGlobals "_law_rule" = some (some (.ref f6))) (l6 : K.lookup f6 = some ⟨oc6, od6, .func (PySem.W.fnOf "_law_rule" "_law_rule" (defArgs s_l_rule) (defBody s_l_rule) (defScope s_l_rule) .none kV6 dc6 pm6 an6 cd6 ct6), sl6⟩) (c6 : PySem.W.codeIn K cd6 "_law_rule" = true) (k6 : PySem.W.keepIn K (.ref f6) = true)
    {od7 an7 : Option Addr} {sl7 : Array (Option Value)} {oc7 kV7 dc7 pm7 cd7 ct7 : Value} {f7 : Addr} (a7 : PySem.W.nsIn K mainGlobals "_law_due" = some (some (.ref f7))) (l7 : K.lookup f7 = some ⟨oc7, od7, .func (PySem.W.fnOf "_law_due" "_law_due" (defArgs s_l_due) (defBody s_l_due) (defScope s_l_due) .none kV7 dc7 pm7 an7 cd7 ct7), sl7⟩) (c7 : PySem.W.codeIn K cd7 "_law_due" = true) (k7 : PySem.W.keepIn K (.ref f7) = true)
    {od8 an8 : Option Addr} {sl8 : Array (Option Value)} {oc8 kV8 dc8 pm8 cd8 ct8 : Value} {f8 : Addr} (a8 : PySem.W.nsIn K mainGlobals "_law_whole" = some (some (.ref f8))) (l8 : K.lookup f8 = some ⟨oc8, od8, .func (PySem.W.fnOf "_law_whole" "_law_whole" (defArgs s_l_whole) (defBody s_l_whole) (defScope s_l_whole) .none kV8 dc8 pm8 an8 cd8 ct8), sl8⟩) (c8 : PySem.W.codeIn K cd8 "_law_whole" = true) (k8 : PySem.W.keepIn K (.ref f8) = true)
    {od9 an9 : Option Addr} {sl9 : Array (Option Value)} {oc9 kV9 dc9 pm9 cd9 ct9 : Value} {f9 : Addr} (a9 : PySem.W.nsIn K mainGlobals "_law_same" = some (some (.ref f9))) (l9 : K.lookup f9 = some ⟨oc9, od9, .func (PySem.W.fnOf "_law_same" "_law_same" (defArgs s_l_same) (defBody s_l_same) (defScope s_l_same) .none kV9 dc9 pm9 an9 cd9 ct9), sl9⟩) (c9 : PySem.W.codeIn K cd9 "_law_same" = true) (k9 : PySem.W.keepIn K (.ref f9) = true)
    {od10 an10 : Option Addr} {sl10 : Array (Option Value)} {oc10 kV10 dc10 pm10 cd10 ct10 : Value} {f10 : Addr} (a10 : PySem.W.nsIn K mainGlobals "figure" = some (some (.ref f10))) (l10 : K.lookup f10 = some ⟨oc10, od10, .func (PySem.W.fnOf "figure" "figure" (defArgs s_p_figure) (defBody s_p_figure) (defScope s_p_figure) .none kV10 dc10 pm10 an10 cd10 ct10), sl10⟩) (c10 : PySem.W.codeIn K cd10 "figure" = true) (k10 : PySem.W.keepIn K (.ref f10) = true)
    {od11 an11 : Option Addr} {sl11 : Array (Option Value)} {oc11 kV11 dc11 pm11 cd11 ct11 : Value} {f11 : Addr} (a11 : PySem.W.nsIn K mainGlobals "ruled" = some (some (.ref f11))) (l11 : K.lookup f11 = some ⟨oc11, od11, .func (PySem.W.fnOf "ruled" "ruled" (defArgs s_p_ruled) (defBody s_p_ruled) (defScope s_p_ruled) .none kV11 dc11 pm11 an11 cd11 ct11), sl11⟩) (c11 : PySem.W.codeIn K cd11 "ruled" = true) (k11 : PySem.W.keepIn K (.ref f11) = true)
    {od12 an12 : Option Addr} {sl12 : Array (Option Value)} {oc12 kV12 dc12 pm12 cd12 ct12 : Value} {f12 : Addr} (a12 : PySem.W.nsIn K mainGlobals "looked" = some (some (.ref f12))) (l12 : K.lookup f12 = some ⟨oc12, od12, .func (PySem.W.fnOf "looked" "looked" (defArgs s_p_looked) (defBody s_p_looked) (defScope s_p_looked) .none kV12 dc12 pm12 an12 cd12 ct12), sl12⟩) (c12 : PySem.W.codeIn K cd12 "looked" = true) (k12 : PySem.W.keepIn K (.ref f12) = true)
    {od13 an13 : Option Addr} {sl13 : Array (Option Value)} {oc13 kV13 dc13 pm13 cd13 ct13 : Value} {f13 : Addr} (a13 : PySem.W.nsIn K mainGlobals "rule_read" = some (some (.ref f13))) (l13 : K.lookup f13 = some ⟨oc13, od13, .func (PySem.W.fnOf "rule_read" "rule_read" (defArgs s_p_rule_read) (defBody s_p_rule_read) (defScope s_p_rule_read) .none kV13 dc13 pm13 an13 cd13 ct13), sl13⟩) (c13 : PySem.W.codeIn K cd13 "rule_read" = true) (k13 : PySem.W.keepIn K (.ref f13) = true)
    {od14 an14 : Option Addr} {sl14 : Array (Option Value)} {oc14 kV14 dc14 pm14 cd14 ct14 : Value} {f14 : Addr} (a14 : PySem.W.nsIn K mainGlobals "read" = some (some (.ref f14))) (l14 : K.lookup f14 = some ⟨oc14, od14, .func (PySem.W.fnOf "read" "read" (defArgs s_p_read) (defBody s_p_read) (defScope s_p_read) .none kV14 dc14 pm14 an14 cd14 ct14), sl14⟩) (c14 : PySem.W.codeIn K cd14 "read" = true) (k14 : PySem.W.keepIn K (.ref f14) = true)
    {od15 an15 : Option Addr} {sl15 : Array (Option Value)} {oc15 kV15 dc15 pm15 cd15 ct15 : Value} {f15 : Addr} (a15 : PySem.W.nsIn K mainGlobals "_law_refused" = some (some (.ref f15))) (l15 : K.lookup f15 = some ⟨oc15, od15, .func (PySem.W.fnOf "_law_refused" "_law_refused" (defArgs s_l_refused_k19) (defBody s_l_refused_k19) (defScope s_l_refused_k19) .none kV15 dc15 pm15 an15 cd15 ct15), sl15⟩) (c15 : PySem.W.codeIn K cd15 "_law_refused" = true) (k15 : PySem.W.keepIn K (.ref f15) = true)
    {od16 an16 : Option Addr} {sl16 : Array (Option Value)} {oc16 kV16 dc16 pm16 cd16 ct16 : Value} {f16 : Addr} (a16 : PySem.W.nsIn K mainGlobals "_law_worded" = some (some (.ref f16))) (l16 : K.lookup f16 = some ⟨oc16, od16, .func (PySem.W.fnOf "_law_worded" "_law_worded" (defArgs s_l_worded) (defBody s_l_worded) (defScope s_l_worded) .none kV16 dc16 pm16 an16 cd16 ct16), sl16⟩) (c16 : PySem.W.codeIn K cd16 "_law_worded" = true) (k16 : PySem.W.keepIn K (.ref f16) = true)
    {od17 an17 : Option Addr} {sl17 : Array (Option Value)} {oc17 kV17 dc17 pm17 cd17 ct17 : Value} {f17 : Addr} (a17 : PySem.W.nsIn K mainGlobals "_law_odd" = some (some (.ref f17))) (l17 : K.lookup f17 = some ⟨oc17, od17, .func (PySem.W.fnOf "_law_odd" "_law_odd" (defArgs s_l_odd) (defBody s_l_odd) (defScope s_l_odd) .none kV17 dc17 pm17 an17 cd17 ct17), sl17⟩) (c17 : PySem.W.codeIn K cd17 "_law_odd" = true) (k17 : PySem.W.keepIn K (.ref f17) = true)
    {od18 an18 : Option Addr} {sl18 : Array (Option Value)} {oc18 kV18 dc18 pm18 cd18 ct18 : Value} {f18 : Addr} (a18 : PySem.W.nsIn K mainGlobals "law" = some (some (.ref f18))) (l18 : K.lookup f18 = some ⟨oc18, od18, .func (PySem.W.fnOf "law" "law" (defArgs s_law_k19) (defBody s_law_k19) (defScope s_law_k19) .none kV18 dc18 pm18 an18 cd18 ct18), sl18⟩) (c18 : PySem.W.codeIn K cd18 "law" = true) (k18 : PySem.W.keepIn K (.ref f18) = true)
    (z_ValueError : PySem.W.nsIn K mainGlobals "ValueError" = some none)
    (z_all : PySem.W.nsIn K mainGlobals "all" = some none)
    (z_bool : PySem.W.nsIn K mainGlobals "bool" = some none)
    (z_int : PySem.W.nsIn K mainGlobals "int" = some none)
    (z_isinstance : PySem.W.nsIn K mainGlobals "isinstance" = some none)
    (z_len : PySem.W.nsIn K mainGlobals "len" = some none)
    (z_range : PySem.W.nsIn K mainGlobals "range" = some none)
    (z_str : PySem.W.nsIn K mainGlobals "str" = some none)
    (z_tuple : PySem.W.nsIn K mainGlobals "tuple" = some none)
    {CN CS CB : Addr} (y_aN : PySem.W.nsIn K mainGlobals "NoNote" = some (some (.ref CN))) (y_aS : PySem.W.nsIn K mainGlobals "StairError" = some (some (.ref CS))) (y_aB : PySem.W.nsIn K mainGlobals "NoMachine" = some (some (.ref CB))) (y_q : PySem.W.excIn K CN [.type "ValueError", .type "Exception", .type "BaseException", .type "object"] "ValueError.__new__" = true) (y_k : PySem.W.keepIn K (.ref CN) = true) (y_b : PySem.W.subIn K (.ref CN) (.type "BaseException") = some true) (y_t : PySem.W.typeIn K (.ref CN) = some (.type "type")) (y_e1 : PySem.W.subIn K (.ref CS) (.type "BaseException") = some true) (y_e2 : PySem.W.hasDictIn K CS = true) (y_e3 : PySem.W.typeIn K (.ref CS) = some (.type "type")) (y_e4 : PySem.W.subIn K (.ref CN) (.ref CS) = some true) (y_1 : PySem.W.findIn K (.ref CN) "__getattribute__" = some (some (.builtin "BaseException.__getattribute__"))) (y_2 : PySem.W.findIn K (.ref CN) "__getattr__" = some none) (y_3 : PySem.W.hasDictIn K CN = true) (y_4 : PySem.W.findIn K (.ref CN) "__class__" = some (some (.builtin "object.__class__"))) (y_5 : PySem.W.specialIn K (.builtin "object.__class__") "__get__" = some (some (.builtin "getset_descriptor.__get__"))) (y_6 : PySem.W.takesIn K (.builtin "object.__class__") = some true) (y_7 : PySem.W.mroIn K CN (.type "object") = some true) (y_9 : PySem.W.subIn K (.ref CN) (.type "ValueError") = some true) (y_0 : PySem.W.subIn K (.ref CN) (.ref CB) = some false) (y_01 : PySem.W.isClsIn K CB = true) (y_02 : PySem.W.typeIn K (.ref CB) = some (.type "type")) (y_03 : PySem.W.subIn K (.ref CN) (.ref CN) = some true) (x_q : PySem.W.excIn K CB [.type "ValueError", .type "Exception", .type "BaseException", .type "object"] "ValueError.__new__" = true) (x_k : PySem.W.keepIn K (.ref CB) = true) (x_b : PySem.W.subIn K (.ref CB) (.type "BaseException") = some true) (x_3 : PySem.W.hasDictIn K CB = true) (x_03 : PySem.W.subIn K (.ref CB) (.ref CB) = some true)
    {tF : Tok} (z_FIGURES : PySem.W.nsIn K mainGlobals "FIGURES" = some (some (.str "0123456789" tF)))
    : ∃ fd : FuncData, (∀ (s : Shared) (v : Value), BindsTo s fd ⟨[v], []⟩ [("script", v)]) ∧ ∀ base : Heap, K.In base → base.Ns mainGlobals mg → FnOk P w K mg base CX0 7 fa fd ["script"] (spD K RS c_law_k19 1) := by
  have e := hfa.symm.trans (PySem.W.mg_of X G a18)
  cases e
  have B : Blt mg := ⟨PySem.W.mg_none_of X G z_ValueError, PySem.W.mg_none_of X G z_all, PySem.W.mg_none_of X G z_bool, PySem.W.mg_none_of X G z_int, PySem.W.mg_none_of X G z_isinstance, PySem.W.mg_none_of X G z_len, PySem.W.mg_none_of X G z_range, PySem.W.mg_none_of X G z_str, PySem.W.mg_none_of X G z_tuple, ⟨_, PySem.W.mg_of X G z_FIGURES⟩⟩
  have F0 := fun_mk (st := s_l_mix) l0 c0 k0
  have b0 := F0.binds (ps := ["cell", "k"]) fun _ _ _ _ _ _ us hl => match us, hl with | [_, _], _ => rfl
  have F1 := fun_mk (st := s_l_cell_at) l1 c1 k1
  have b1 := F1.binds (ps := ["script", "k"]) fun _ _ _ _ _ _ us hl => match us, hl with | [_, _], _ => rfl
  have F2 := fun_mk (st := s_l_pick) l2 c2 k2
  have b2 := F2.binds (ps := ["script", "k"]) fun _ _ _ _ _ _ us hl => match us, hl with | [_, _], _ => rfl
  have F3 := fun_mk (st := s_l_machine) l3 c3 k3
  have b3 := F3.binds (ps := ["script", "start", "rooms", "signs"]) fun _ _ _ _ _ _ us hl => match us, hl with | [_, _, _, _], _ => rfl
  have F4 := fun_mk (st := s_l_text) l4 c4 k4
  have b4 := F4.binds (ps := ["machine"]) fun _ _ _ _ _ _ us hl => match us, hl with | [_], _ => rfl
  have F5 := fun_mk (st := s_l_figure) l5 c5 k5
  have b5 := F5.binds (ps := ["word"]) fun _ _ _ _ _ _ us hl => match us, hl with | [_], _ => rfl
  have F6 := fun_mk (st := s_l_rule) l6 c6 k6
  have b6 := F6.binds (ps := ["word", "rooms", "signs"]) fun _ _ _ _ _ _ us hl => match us, hl with | [_, _, _], _ => rfl
  have F7 := fun_mk (st := s_l_due) l7 c7 k7
  have b7 := F7.binds (ps := ["text"]) fun _ _ _ _ _ _ us hl => match us, hl with | [_], _ => rfl
  have F8 := fun_mk (st := s_l_whole) l8 c8 k8
  have b8 := F8.binds (ps := ["x"]) fun _ _ _ _ _ _ us hl => match us, hl with | [_], _ => rfl
  have F9 := fun_mk (st := s_l_same) l9 c9 k9
  have b9 := F9.binds (ps := ["found", "due"]) fun _ _ _ _ _ _ us hl => match us, hl with | [_, _], _ => rfl
  have F10 := fun_mk (st := s_p_figure) l10 c10 k10
  have b10 := F10.binds (ps := ["sign"]) fun _ _ _ _ _ _ us hl => match us, hl with | [_], _ => rfl
  have F11 := fun_mk (st := s_p_ruled) l11 c11 k11
  have b11 := F11.binds (ps := ["rule", "rooms", "signs"]) fun _ _ _ _ _ _ us hl => match us, hl with | [_, _, _], _ => rfl
  have F12 := fun_mk (st := s_p_looked) l12 c12 k12
  have b12 := F12.binds (ps := ["machine"]) fun _ _ _ _ _ _ us hl => match us, hl with | [_], _ => rfl
  have F13 := fun_mk (st := s_p_rule_read) l13 c13 k13
  have b13 := F13.binds (ps := ["word"]) fun _ _ _ _ _ _ us hl => match us, hl with | [_], _ => rfl
  have F14 := fun_mk (st := s_p_read) l14 c14 k14
  have b14 := F14.binds (ps := ["text"]) fun _ _ _ _ _ _ us hl => match us, hl with | [_], _ => rfl
  have F15 := fun_mk (st := s_l_refused_k19) l15 c15 k15
  have b15 := F15.binds (ps := ["text"]) fun _ _ _ _ _ _ us hl => match us, hl with | [_], _ => rfl
  have F16 := fun_mk (st := s_l_worded) l16 c16 k16
  have b16 := F16.binds (ps := ["text", "cell", "other"]) fun _ _ _ _ _ _ us hl => match us, hl with | [_, _, _], _ => rfl
  have F17 := fun_mk (st := s_l_odd) l17 c17 k17
  have b17 := F17.binds (ps := ["cell"]) fun _ _ _ _ _ _ us hl => match us, hl with | [_], _ => rfl
  have F18 := fun_mk (st := s_law_k19) l18 c18 k18
  have b18 := F18.binds (ps := ["script"]) fun _ _ _ _ _ _ us hl => match us, hl with | [_], _ => rfl
  refine ⟨PySem.W.fnOf "law" "law" (defArgs s_law_k19) (defBody s_law_k19) (defScope s_law_k19) .none kV18 dc18 pm18 an18 cd18 ct18, fun s v => .of_eq rfl, fun base _ _ => ?_⟩
  have C_l_mix : Cal P w K mg base "_law_mix" RS c_l_mix 2 1 := cal_l_mix F0 (PySem.W.mg_of X G a0) b0 B 
  have C_l_cell_at : Cal P w K mg base "_law_cell_at" RS c_l_cell_at 2 1 := cal_l_cell_at F1 (PySem.W.mg_of X G a1) b1 B 
  have C_l_pick : Cal P w K mg base "_law_pick" RS c_l_pick 2 2 := cal_l_pick F2 (PySem.W.mg_of X G a2) b2 B C_l_cell_at
  have C_l_machine : Cal P w K mg base "_law_machine" RS c_l_machine 4 3 := cal_l_machine F3 (PySem.W.mg_of X G a3) b3 B C_l_mix C_l_pick
  have C_l_text : Cal P w K mg base "_law_text" RS c_l_text 1 1 := cal_l_text F4 (PySem.W.mg_of X G a4) b4 B 
  have C_l_figure : Cal P w K mg base "_law_figure" RS c_l_figure 1 1 := cal_l_figure F5 (PySem.W.mg_of X G a5) b5 B 
  have C_l_rule : Cal P w K mg base "_law_rule" RS c_l_rule 3 2 := cal_l_rule F6 (PySem.W.mg_of X G a6) b6 B C_l_figure
  have C_l_due : Cal P w K mg base "_law_due" RS c_l_due 1 3 := cal_l_due F7 (PySem.W.mg_of X G a7) b7 B C_l_figure C_l_rule
  have C_l_whole : Cal P w K mg base "_law_whole" RS c_l_whole 1 1 := cal_l_whole F8 (PySem.W.mg_of X G a8) b8 B 
  have C_l_same : Cal P w K mg base "_law_same" RS (c_same 4) 2 6 := by
    have N : Cal P w K mg base "_law_same" RS (fun _ _ => False) 2 1 := cal_never (PySem.W.mg_of X G a9) F9.kp b9
    have S0 : Cal P w K mg base "_law_same" RS (c_same 0) 2 2 := (cal_l_same (by decide) F9 (PySem.W.mg_of X G a9) b9 B C_l_whole N).imp fun ds q h => same_z h
    have S1 : Cal P w K mg base "_law_same" RS (c_same 1) 2 3 := (cal_l_same (by decide) F9 (PySem.W.mg_of X G a9) b9 B C_l_whole S0).imp fun ds q h => same_s h
    have S2 : Cal P w K mg base "_law_same" RS (c_same 2) 2 4 := (cal_l_same (by decide) F9 (PySem.W.mg_of X G a9) b9 B C_l_whole S1).imp fun ds q h => same_s h
    have S3 : Cal P w K mg base "_law_same" RS (c_same 3) 2 5 := (cal_l_same (by decide) F9 (PySem.W.mg_of X G a9) b9 B C_l_whole S2).imp fun ds q h => same_s h
    have S4 : Cal P w K mg base "_law_same" RS (c_same 4) 2 6 := (cal_l_same (by decide) F9 (PySem.W.mg_of X G a9) b9 B C_l_whole S3).imp fun ds q h => same_s h
    exact S4.up (by decide)
  have T_NoNote : XCls K mg "NoNote" CN := ⟨PySem.W.mg_of X G y_aN, y_q, y_k, y_b, y_t⟩
  have T_NoMachine : XCls K mg "NoMachine" CB := ⟨PySem.W.mg_of X G y_aB, x_q, x_k, x_b, y_02⟩
  have hx_NoMachine : PySem.W.exmOne K (.ref CB) (.ref CB) = some true := PySem.W.exm_ref x_b x_3 y_02 x_03
  have C_p_figure : CalX P w K mg base "figure" RS cx_p_figure 1 1 := cal_p_figure F10 (PySem.W.mg_of X G a10) b10 B T_NoNote 
  have C_p_ruled : Cal P w K mg base "ruled" RS c_p_ruled 3 1 := cal_p_ruled F11 (PySem.W.mg_of X G a11) b11 B 
  have C_p_looked : CalX P w K mg base "looked" RS cx_p_looked 1 2 := cal_p_looked F12 (PySem.W.mg_of X G a12) b12 B T_NoMachine C_p_ruled
  have C_p_rule_read : CalX P w K mg base "rule_read" RS cx_p_rule_read 1 2 := cal_p_rule_read F13 (PySem.W.mg_of X G a13) b13 B T_NoNote C_p_figure
  have C_p_read : CalX P w K mg base "read" RS cx_p_read 1 3 := cal_p_read F14 (PySem.W.mg_of X G a14) b14 B T_NoNote T_NoMachine hx_NoMachine C_p_figure C_p_looked C_p_rule_read
  have T : RefT K mg "NoNote" "NoMachine" CS CN CB := ⟨PySem.W.mg_of X G y_aS, PySem.W.mg_of X G y_aN, PySem.W.mg_of X G y_aB, PySem.W.exm_ref y_e1 y_e2 y_e3 y_e4, ⟨y_1, y_2, y_b, y_3, y_4, y_5, y_6, y_7⟩, kit_self, kit_type metaVE y_9, kit_ref y_0 y_03 y_01 y_02, B.ValueError, B.isinstance⟩
  have C_l_refused_k19 : Cal P w K mg base "_law_refused" RS c_l_refused_k19 1 4 := by
    obtain ⟨fL, fdL, psL, FL, gL, kL, bL⟩ := C_p_read.ex
    exact cal_l_refused_k19 F15 (PySem.W.mg_of X G a15) b15 T FL gL kL bL
  have C_l_worded : Cal P w K mg base "_law_worded" RS c_l_worded 3 1 := cal_l_worded F16 (PySem.W.mg_of X G a16) b16 B 
  have C_l_odd : Cal P w K mg base "_law_odd" RS c_l_odd 1 1 := cal_l_odd F17 (PySem.W.mg_of X G a17) b17 B 
  exact fn_law_k19 F18 B C_l_machine C_l_text C_l_due C_l_same C_l_cell_at C_p_read C_l_refused_k19 C_l_worded C_l_odd
end DL
open PySem PySem.W PyProof.Rows
set_option maxHeartbeats 0 in
theorem PySem.Challenge.cw_downstair_k19_read_holds : PySem.Challenge.rw_downstair_k19_read.Holds := by
  w_on; o_law; k_head; (case hw => w_witness2)
  k_fill
  refine L2.walk_ofK (l := PySem.Challenge.rw_downstair_k19_read) (n := 63) (k := 7) (x := "script") (CX := L2.CX0) (sp := fun K => DL.spD K DL.RS DL.c_law_k19 1) rfl (by decide) rfl ⟨rfl, by decide, by decide⟩ (fun w h Y => PySem.W.kIn_of Y) ?F (fun K H a ns hl _ hS => DL.law_sp DL.holds_k19 H a ns hl hS) (fun _ _ _ _ h => h)
  case F =>
    intro w mg fa h KX G hmg
    refine' DL.all_mk KX G hmg ?a0 ?l0 ?c0 ?k0 ?a1 ?l1 ?c1 ?k1 ?a2 ?l2 ?c2 ?k2 ?a3 ?l3 ?c3 ?k3 ?a4 ?l4 ?c4 ?k4 ?a5 ?l5 ?c5 ?k5 ?a6 ?l6 ?c6 ?k6 ?a7 ?l7 ?c7 ?k7 ?a8 ?l8 ?c8 ?k8 ?a9 ?l9 ?c9 ?k9 ?a10 ?l10 ?c10 ?k10 ?a11 ?l11 ?c11 ?k11 ?a12 ?l12 ?c12 ?k12 ?a13 ?l13 ?c13 ?k13 ?a14 ?l14 ?c14 ?k14 ?a15 ?l15 ?c15 ?k15 ?a16 ?l16 ?c16 ?k16 ?a17 ?l17 ?c17 ?k17 ?a18 ?l18 ?c18 ?k18 ?z_ValueError ?z_all ?z_bool ?z_int ?z_isinstance ?z_len ?z_range ?z_str ?z_tuple ?y_aN ?y_aS ?y_aB ?y_q ?y_k ?y_b ?y_t ?y_e1 ?y_e2 ?y_e3 ?y_e4 ?y_1 ?y_2 ?y_3 ?y_4 ?y_5 ?y_6 ?y_7 ?y_9 ?y_0 ?y_01 ?y_02 ?y_03 ?x_q ?x_k ?x_b ?x_3 ?x_03 ?z_FIGURES
    (case a0 => k_is); (case l0 => k_is); (case c0 => k_is); (case k0 => k_is)
    (case a1 => k_is); (case l1 => k_is); (case c1 => k_is); (case k1 => k_is)
    (case a2 => k_is); (case l2 => k_is); (case c2 => k_is); (case k2 => k_is)
    (case a3 => k_is); (case l3 => k_is); (case c3 => k_is); (case k3 => k_is)
    (case a4 => k_is); (case l4 => k_is); (case c4 => k_is); (case k4 => k_is)
    (case a5 => k_is); (case l5 => k_is); (case c5 => k_is); (case k5 => k_is)
    (case a6 => k_is); (case l6 => k_is); (case c6 => k_is); (case k6 => k_is)
    (case a7 => k_is); (case l7 => k_is); (case c7 => k_is); (case k7 => k_is)
    (case a8 => k_is); (case l8 => k_is); (case c8 => k_is); (case k8 => k_is)
    (case a9 => k_is); (case l9 => k_is); (case c9 => k_is); (case k9 => k_is)
    (case a10 => k_is); (case l10 => k_is); (case c10 => k_is); (case k10 => k_is)
    (case a11 => k_is); (case l11 => k_is); (case c11 => k_is); (case k11 => k_is)
    (case a12 => k_is); (case l12 => k_is); (case c12 => k_is); (case k12 => k_is)
    (case a13 => k_is); (case l13 => k_is); (case c13 => k_is); (case k13 => k_is)
    (case a14 => k_is); (case l14 => k_is); (case c14 => k_is); (case k14 => k_is)
    (case a15 => k_is); (case l15 => k_is); (case c15 => k_is); (case k15 => k_is)
    (case a16 => k_is); (case l16 => k_is); (case c16 => k_is); (case k16 => k_is)
    (case a17 => k_is); (case l17 => k_is); (case c17 => k_is); (case k17 => k_is)
    (case a18 => k_is); (case l18 => k_is); (case c18 => k_is); (case k18 => k_is)
    (case z_ValueError => k_is); (case z_all => k_is); (case z_bool => k_is); (case z_int => k_is)
    (case z_isinstance => k_is); (case z_len => k_is); (case z_range => k_is); (case z_str => k_is)
    (case z_tuple => k_is); (case y_aN => k_is); (case y_aS => k_is); (case y_aB => k_is)
    (case y_q => k_exc); (case y_k => k_is); (case y_b => k_is); (case y_t => k_is)
    (case y_e1 => k_is); (case y_e2 => k_is); (case y_e3 => k_is); (case y_e4 => k_is)
    (case y_1 => k_is); (case y_2 => k_is); (case y_3 => k_is); (case y_4 => k_is)
    (case y_5 => k_is); (case y_6 => k_is); (case y_7 => k_is); (case y_9 => k_is)
    (case y_0 => k_is); (case y_01 => k_is); (case y_02 => k_is); (case y_03 => k_is)
    (case x_q => k_exc); (case x_k => k_is); (case x_b => k_is); (case x_3 => k_is)
    (case x_03 => k_is); (case z_FIGURES => k_is)
